import PyProof.Rows.All
import PySem.Challenge.RW_nonelearns_k02_whole_told_in_so_many_rou
import HandS.ForMost
import HandS.ForExc
import HandS.IsInst
import HandS.TupMul
import HandS.TupAny
import HandS.TupLe
import HandS.Zip
import HandS.Conv
import HandS.CallSlots
import HandS.Deep
import KE.KDictZip
import KE.KDictList
import KE.GoesMore
import KE.GoesEnum
import KE.SortData
import HandS.TupSets
import HandS.Strs
import HandS.SetFor
import HandS.Style
set_option Elab.async false
set_option linter.all false
set_option maxRecDepth 100000
set_option maxHeartbeats 4000000
/-! layer E, part A: data, how it lies in the heap, slots, steps -/
namespace EE
open PySem PySem.Spec
open PyProof.Rows hiding St
open L2

/-- keys of dicts -/
inductive Ky where
  | k (k : Key) | t (ks : List Key)
  deriving DecidableEq
/-- kinds of nodes; the mark tells whether it is owned by one slot (may change) or frozen -/
inductive Kd where
  | tup | lst (own : Bool) | dic (own : Bool) (ks : List Ky)
  deriving DecidableEq
/-- plain data -/
inductive D where
  | non | bl (b : Bool) | int (i : Int) | str (x : Str) | nd (k : Kd) (xs : List D)

def Kd.isF : Kd → Bool
  | .tup => true
  | .lst o => !o
  | .dic o _ => !o
def Kd.frz : Kd → Kd
  | .tup => .tup
  | .lst _ => .lst false
  | .dic _ ks => .dic false ks
mutual
def D.isF : D → Bool
  | .nd k xs => k.isF && D.isFL xs
  | .non => true
  | .bl _ => true
  | .int _ => true
  | .str _ => true
def D.isFL : List D → Bool
  | [] => true
  | x :: xs => D.isF x && D.isFL xs
end
mutual
def D.frz : D → D
  | .nd k xs => .nd k.frz (D.frzL xs)
  | .non => .non
  | .bl b => .bl b
  | .int i => .int i
  | .str x => .str x
def D.frzL : List D → List D
  | [] => []
  | x :: xs => D.frz x :: D.frzL xs
end
theorem D.isFL_iff : ∀ {xs : List D}, D.isFL xs = true ↔ ∀ x ∈ xs, D.isF x = true
  | [] => by simp [D.isFL]
  | x :: xs => by simp [D.isFL, D.isFL_iff (xs := xs)]
theorem D.isFL_all (xs : List D) : D.isFL xs = xs.all D.isF := by
  induction xs with
  | nil => rfl
  | cons x xs ih => simp [D.isFL, ih]
theorem D.frzL_map (xs : List D) : D.frzL xs = xs.map D.frz := by
  induction xs with
  | nil => rfl
  | cons x xs ih => simp [D.frzL, ih]

/-- things that never change -/
def Fix : HO → Prop
  | .tup _ => True
  | .frz _ _ => True
  | _ => False
theorem Fix.notMut {o : HO} (h : Fix o) : ¬ Mut (some o) := by
  cases o <;> first | exact fun z => z | exact fun _ => h

/-- a dict's object: keys and values -/
def DicAt (o : HO) (ks : List Ky) (vs : List V) : Prop :=
  (∃ kvs : List (Key × V), o = .dK kvs ∧ ks = kvs.map (fun p => Ky.k p.1) ∧ vs = kvs.map (·.2)) ∨
  (∃ kvs : List (List Key × V), o = .dT kvs ∧ ks = kvs.map (fun p => Ky.t p.1) ∧ vs = kvs.map (·.2))
theorem DicAt.mut {o : HO} {ks : List Ky} {vs : List V} (h : DicAt o ks vs) : Mut (some o) := by
  rcases h with ⟨kvs, rfl, _⟩ | ⟨kvs, rfl, _⟩ <;> trivial
theorem DicAt.notFrz {o : HO} {ks : List Ky} {vs : List V} (h : DicAt o ks vs) : ¬ Fix o := by
  rcases h with ⟨kvs, rfl, _⟩ | ⟨kvs, rfl, _⟩ <;> exact fun z => z

/-- a frozen list -/
def SqZ (K : PySem.W.Frag) (H : Hp) (a : Addr) (vs : List V) : Prop :=
  (∃ o, H a = some (.frz o (.lst vs))) ∨
    ∃ (o : Obj) (its : Array Value) (n : Nat), K.lookup a = some o ∧ o.cls = .type "list" ∧ o.dict = none ∧ o.data = .seq its n ∧ its.size ≤ sizeLine ∧ Vals vs its.toList
theorem SqZ.sq {K : PySem.W.Frag} {H : Hp} {a : Addr} {vs : List V} (h : SqZ K H a vs) : SqL K H a vs := by
  rcases h with ⟨o, h⟩ | h
  · exact .inl (.inr ⟨o, h⟩)
  · exact .inr h
/-- a frozen node at a, its children vs -/
def FzAt (K : PySem.W.Frag) (H : Hp) (a : Addr) : Kd → List V → Prop
  | .tup, vs => SqT K H a vs
  | .lst false, vs => SqZ K H a vs
  | .dic false ks, vs => ∃ o u, H a = some (.frz o u) ∧ DicAt u ks vs
  | _, _ => False
/-- an owned node at a -/
def OwAt (H : Hp) (a : Addr) : Kd → List V → Prop
  | .lst true, vs => H a = some (.lst vs)
  | .dic true ks, vs => ∃ u, H a = some u ∧ DicAt u ks vs
  | _, _ => False

inductive Fz (K : PySem.W.Frag) (H : Hp) : V → D → Prop where
  | non : Fz K H .non .non
  | bl (b : Bool) : Fz K H (.bl b) (.bl b)
  | int (i : Int) : Fz K H (.int i) (.int i)
  | str (x : Str) : Fz K H (.str x) (.str x)
  | nd {a : Addr} {k : Kd} {vs : List V} {xs : List D} : FzAt K H a k vs → vs.length = xs.length →
      (∀ (i : Nat) (v : V) (d : D), vs[i]? = some v → xs[i]? = some d → Fz K H v d) → Fz K H (.ref a) (.nd k xs)

inductive Ow (K : PySem.W.Frag) (H : Hp) : V → D → List Addr → Prop where
  | fz {v : V} {d : D} : Fz K H v d → Ow K H v d []
  | nd {a : Addr} {k : Kd} {vs : List V} {xs : List D} {fs : List (List Addr)} : OwAt H a k vs → vs.length = xs.length → fs.length = xs.length →
      (∀ (i : Nat) (v : V) (d : D) (f : List Addr), vs[i]? = some v → xs[i]? = some d → fs[i]? = some f → Ow K H v d f) → Ow K H (.ref a) (.nd k xs) (a :: fs.flatten)
  | tup {a : Addr} {vs : List V} {xs : List D} {fs : List (List Addr)} : SqT K H a vs → vs.length = xs.length → fs.length = xs.length →
      (∀ (i : Nat) (v : V) (d : D) (f : List Addr), vs[i]? = some v → xs[i]? = some d → fs[i]? = some f → Ow K H v d f) → Ow K H (.ref a) (.nd .tup xs) fs.flatten

section
variable {K : PySem.W.Frag} {H H' : Hp} {a : Addr} {v : V} {d : D} {f : List Addr} {k : Kd} {vs : List V} {xs : List D}
theorem SqT.stay (h : SqT K H a vs) (k : ∀ b o, H b = some o → Fix o → H' b = some o) : SqT K H' a vs := by
  rcases h with (h | ⟨o, h⟩) | h
  · exact .inl (.inl (k _ _ h trivial))
  · exact .inl (.inr ⟨o, k _ _ h trivial⟩)
  · exact .inr h
theorem SqZ.stay (h : SqZ K H a vs) (k : ∀ b o, H b = some o → Fix o → H' b = some o) : SqZ K H' a vs := by
  rcases h with ⟨o, h⟩ | h
  · exact .inl ⟨o, k _ _ h trivial⟩
  · exact .inr h
theorem FzAt.stay (h : FzAt K H a k vs) (kp : ∀ b o, H b = some o → Fix o → H' b = some o) : FzAt K H' a k vs := by
  match k, h with
  | .tup, h => exact SqT.stay h kp
  | .lst false, h => exact SqZ.stay h kp
  | .dic false ks, ⟨o, u, h, q⟩ => exact ⟨o, u, kp _ _ h trivial, q⟩
theorem FzAt.isF (h : FzAt K H a k vs) : k.isF = true := by
  match k, h with
  | .tup, h => rfl
  | .lst false, h => rfl
  | .dic false ks, _ => rfl
theorem OwAt.isF (h : OwAt H a k vs) : k.isF = false := by
  match k, h with
  | .lst true, h => rfl
  | .dic true ks, _ => rfl
theorem OwAt.mut (h : OwAt H a k vs) : ∃ o, H a = some o ∧ Mut (some o) := by
  match k, h with
  | .lst true, h => exact ⟨_, h, trivial⟩
  | .dic true ks, ⟨u, h, q⟩ => exact ⟨u, h, q.mut⟩
theorem OwAt.stay (h : OwAt H a k vs) (e : ∀ o, H a = some o → H' a = some o) : OwAt H' a k vs := by
  match k, h with
  | .lst true, h => exact e _ h
  | .dic true ks, ⟨u, h, q⟩ => exact ⟨u, e _ h, q⟩
theorem OwAt.frz (h : OwAt H a k vs) (e : ∀ u, H a = some u → ∃ o, H' a = some (.frz o u)) : FzAt K H' a k.frz vs := by
  match k, h with
  | .lst true, h => obtain ⟨o, q⟩ := e _ h; exact .inl ⟨o, q⟩
  | .dic true ks, ⟨u, h, q⟩ => obtain ⟨o, z⟩ := e _ h; exact ⟨o, u, z, q⟩
theorem FzAt.frz (h : FzAt K H a k vs) : FzAt K H a k.frz vs := by
  match k, h with
  | .tup, h => exact h
  | .lst false, h => exact h
  | .dic false ks, h => exact h

theorem Fz.stay (h : Fz K H v d) (kp : ∀ b o, H b = some o → Fix o → H' b = some o) : Fz K H' v d := by
  induction h with
  | non => exact .non
  | bl b => exact .bl b
  | int i => exact .int i
  | str x => exact .str x
  | nd h1 h2 _ ih => exact .nd (h1.stay kp) h2 ih
theorem Fz.isF (h : Fz K H v d) : d.isF = true := by
  induction h with
  | non => rfl
  | bl b => rfl
  | int i => rfl
  | str x => rfl
  | @nd a k vs xs h1 h2 _ ih =>
    show (k.isF && D.isFL xs) = true
    rw [h1.isF, D.isFL_all, Bool.true_and, List.all_eq_true]
    intro x hx
    obtain ⟨i, hi, e⟩ := List.getElem_of_mem hx
    exact ih i (vs[i]'(by omega)) x (List.getElem?_eq_getElem _) (by rw [← e]; exact List.getElem?_eq_getElem hi)

theorem mem_flat {α : Type} {fs : List (List α)} {i : Nat} {f : List α} {b : α} (h : fs[i]? = some f) (hb : b ∈ f) : b ∈ fs.flatten :=
  List.mem_flatten.mpr ⟨f, List.mem_of_getElem? h, hb⟩
theorem Ow.stay (h : Ow K H v d f) (kp : ∀ b o, H b = some o → (Fix o ∨ b ∈ f) → H' b = some o) : Ow K H' v d f := by
  induction h with
  | fz h => exact .fz (h.stay fun b o e x => kp b o e (.inl x))
  | @nd a k vs xs fs h1 h2 h3 _ ih =>
    refine .nd (h1.stay fun o e => kp _ _ e (.inr List.mem_cons_self)) h2 h3 fun i v d f e1 e2 e3 => ih i v d f e1 e2 e3 fun b o e x => kp b o e (x.imp id fun hb => List.mem_cons_of_mem _ (mem_flat e3 hb))
  | @tup a vs xs fs h1 h2 h3 _ ih =>
    refine .tup (SqT.stay h1 fun b o e x => kp b o e (.inl x)) h2 h3 fun i v d f e1 e2 e3 => ih i v d f e1 e2 e3 fun b o e x => kp b o e (x.imp id fun hb => mem_flat e3 hb)
/-- all that is owned is tracked and may change -/
theorem Ow.mut (h : Ow K H v d f) : ∀ b ∈ f, ∃ o, H b = some o ∧ Mut (some o) := by
  induction h with
  | fz h => intro b hb; cases hb
  | @nd a k vs xs fs h1 h2 h3 _ ih =>
    intro b hb
    rcases List.mem_cons.mp hb with rfl | hb
    · exact h1.mut
    · obtain ⟨f, hf, hb⟩ := List.mem_flatten.mp hb
      obtain ⟨i, hi, e⟩ := List.getElem_of_mem hf
      exact ih i (vs[i]'(by omega)) (xs[i]'(by omega)) f (List.getElem?_eq_getElem _) (List.getElem?_eq_getElem _) (by rw [← e]; exact List.getElem?_eq_getElem hi) b hb
  | @tup a vs xs fs h1 h2 h3 _ ih =>
    intro b hb
    obtain ⟨f, hf, hb⟩ := List.mem_flatten.mp hb
    obtain ⟨i, hi, e⟩ := List.getElem_of_mem hf
    exact ih i (vs[i]'(by omega)) (xs[i]'(by omega)) f (List.getElem?_eq_getElem _) (List.getElem?_eq_getElem _) (by rw [← e]; exact List.getElem?_eq_getElem hi) b hb
/-- frozen data is owned by nobody -/
theorem Ow.isF (h : Ow K H v d f) (q : d.isF = true) : Fz K H v d ∧ f = [] := by
  induction h with
  | fz h => exact ⟨h, rfl⟩
  | @nd a k vs xs fs h1 h2 h3 _ ih =>
    have z : (k.isF && D.isFL xs) = true := q
    rw [h1.isF] at z
    cases z
  | @tup a vs xs fs h1 h2 h3 _ ih =>
    have z : D.isFL xs = true := q
    have c : ∀ (i : Nat) (v : V) (d : D) (f : List Addr), vs[i]? = some v → xs[i]? = some d → fs[i]? = some f → Fz K H v d ∧ f = [] := fun i v d f e1 e2 e3 => ih i v d f e1 e2 e3 (D.isFL_iff.mp z d (List.mem_of_getElem? e2))
    refine ⟨.nd (k := .tup) h1 h2 fun i v d e1 e2 => ?_, ?_⟩
    · obtain ⟨hi, _⟩ := List.getElem?_eq_some_iff.mp e2
      exact (c i v d (fs[i]'(by omega)) e1 e2 (List.getElem?_eq_getElem _)).1
    · rw [List.flatten_eq_nil_iff]
      intro f hf
      obtain ⟨i, hi, e⟩ := List.getElem_of_mem hf
      exact (c i (vs[i]'(by omega)) (xs[i]'(by omega)) f (List.getElem?_eq_getElem _) (List.getElem?_eq_getElem _) (by rw [← e]; exact List.getElem?_eq_getElem hi)).2
/-- behind a lock of all that is owned it is frozen -/
theorem Fz.frz (h : Fz K H v d) : Fz K H v d.frz := by
  induction h with
  | non => exact .non
  | bl b => exact .bl b
  | int i => exact .int i
  | str x => exact .str x
  | @nd a k vs xs h1 h2 _ ih =>
    show Fz K H (.ref a) (.nd k.frz (D.frzL xs))
    rw [D.frzL_map]
    refine .nd h1.frz (by simpa using h2) fun i v d e1 e2 => ?_
    rw [List.getElem?_map] at e2
    cases e : xs[i]? with
    | none => rw [e] at e2; cases e2
    | some x => rw [e] at e2; cases e2; exact ih i v x e1 e
theorem Ow.frz (h : Ow K H v d f) (kp : ∀ b o, H b = some o → Fix o → H' b = some o) (lk : ∀ b ∈ f, ∀ u, H b = some u → ∃ o, H' b = some (.frz o u)) : Fz K H' v d.frz := by
  induction h with
  | fz h => exact (h.stay kp).frz
  | @nd a k vs xs fs h1 h2 h3 _ ih =>
    show Fz K H' (.ref a) (.nd k.frz (D.frzL xs))
    rw [D.frzL_map]
    refine .nd (h1.frz (lk a List.mem_cons_self)) (by simpa using h2) fun i v d e1 e2 => ?_
    rw [List.getElem?_map] at e2
    cases e : xs[i]? with
    | none => rw [e] at e2; cases e2
    | some x =>
      rw [e] at e2; cases e2
      obtain ⟨hi, _⟩ := List.getElem?_eq_some_iff.mp e
      have e3 : fs[i]? = some (fs[i]'(by omega)) := List.getElem?_eq_getElem _
      exact ih i v x _ e1 e e3 fun b hb => lk b (List.mem_cons_of_mem _ (mem_flat e3 hb))
  | @tup a vs xs fs h1 h2 h3 _ ih =>
    show Fz K H' (.ref a) (.nd .tup (D.frzL xs))
    rw [D.frzL_map]
    refine .nd (k := .tup) (SqT.stay h1 kp) (by simpa using h2) fun i v d e1 e2 => ?_
    rw [List.getElem?_map] at e2
    cases e : xs[i]? with
    | none => rw [e] at e2; cases e2
    | some x =>
      rw [e] at e2; cases e2
      obtain ⟨hi, _⟩ := List.getElem?_eq_some_iff.mp e
      have e3 : fs[i]? = some (fs[i]'(by omega)) := List.getElem?_eq_getElem _
      exact ih i v x _ e1 e e3 fun b hb => lk b (mem_flat e3 hb)
end

/-- all at the addresses of a list are locked -/
theorem lockAll {X : Cx} {pins : List (Addr × Obj)} {σ : St} {s : Shared} : ∀ (f : List Addr) (H : Hp), Inv X pins σ H s → (∀ b ∈ f, ∃ o, H b = some o ∧ Mut (some o)) →
    ∃ H', Inv X pins σ H' s ∧ (∀ b, b ∉ f → H' b = H b) ∧ ∀ b ∈ f, ∀ u, H b = some u → ∃ o, H' b = some (.frz o u)
  | [], H, I, _ => ⟨H, I, fun _ _ => rfl, fun b hb => nomatch hb⟩
  | a :: f, H, I, hm => by
    obtain ⟨H1, I1, k1, l1⟩ := lockAll f H I fun b hb => hm b (List.mem_cons_of_mem _ hb)
    by_cases ha : a ∈ f
    · refine ⟨H1, I1, fun b hb => k1 b fun z => hb (List.mem_cons_of_mem _ z), fun b hb => ?_⟩
      rcases List.mem_cons.mp hb with rfl | hb
      · exact l1 b ha
      · exact l1 b hb
    · obtain ⟨o, e, mu⟩ := hm a List.mem_cons_self
      have e1 : H1 a = some o := (k1 a ha).trans e
      obtain ⟨od, I2⟩ := I1.lock e1 mu
      refine ⟨_, I2, fun b hb => ?_, fun b hb u eu => ?_⟩
      · have hb' : b ≠ a := fun z => hb (by rw [z]; exact List.mem_cons_self)
        rw [upd_ne hb']
        exact k1 b fun z => hb (List.mem_cons_of_mem _ z)
      · by_cases hba : b = a
        · subst hba
          rw [e] at eu; cases eu
          exact ⟨od, upd_same⟩
        · rw [upd_ne hba]
          exact l1 b ((List.mem_cons.mp hb).resolve_left hba) u eu

/-! ### slots -/
inductive Sl where
  | un | dt (x : D) | io (x : D)
def Sl.dat : Sl → Option D
  | .un => none
  | .dt x => some x
  | .io x => some x
abbrev Rho := List Sl
abbrev Fp := Nat → List Addr
def fsS (F : Fp) : Addr → Prop := fun a => ∃ i, a ∈ F i

structure EnvR (K : PySem.W.Frag) (A : Nat → Addr) (σ : St) (H : Hp) (ρ : Rho) (F : Fp) : Prop where
  rep : ∀ (i : Nat) (s : Sl) (d : D), ρ[i]? = some s → s.dat = some d → ∃ v, σ[i]? = some (some v) ∧ Ow K H v d (F i)
  io : ∀ (i : Nat) (d : D), ρ[i]? = some (.io d) → σ[i]? = some (some (.ref (A i)))
  emp : ∀ i a, a ∈ F i → ∃ s d, ρ[i]? = some s ∧ s.dat = some d
  nd : ∀ i, (F i).Nodup
  dj : ∀ i j a, a ∈ F i → a ∈ F j → i = j
  len : ρ.length = σ.length
theorem EnvR.mut {K : PySem.W.Frag} {A : Nat → Addr} {σ : St} {H : Hp} {ρ : Rho} {F : Fp} (e : EnvR K A σ H ρ F) {a : Addr} (h : fsS F a) : ∃ o, H a = some o ∧ Mut (some o) := by
  obtain ⟨i, h⟩ := h
  obtain ⟨s, d, e1, e2⟩ := e.emp i a h
  obtain ⟨v, _, w⟩ := e.rep i s d e1 e2
  exact w.mut a h
theorem EnvR.notFix {K : PySem.W.Frag} {A : Nat → Addr} {σ : St} {H : Hp} {ρ : Rho} {F : Fp} (e : EnvR K A σ H ρ F) {a : Addr} {o : HO} (q : H a = some o) (x : Fix o) : ¬ fsS F a := fun h => by
  obtain ⟨o', e', m⟩ := e.mut h
  rw [q] at e'; cases e'
  exact x.notMut m

/-- a step: what is owned by nobody stays; what is owned behind it was owned or is new -/
def Stp (H : Hp) (S : Addr → Prop) (H' : Hp) (S' : Addr → Prop) : Prop :=
  (∀ b o, H b = some o → ¬ S b → H' b = some o) ∧ ∀ b, S' b → H b = none ∨ S b
abbrev plus (S : Addr → Prop) (g : List Addr) : Addr → Prop := fun a => S a ∨ a ∈ g
section
variable {H H1 H2 : Hp} {S S1 S2 : Addr → Prop}
theorem Stp.refl : Stp H S H S := ⟨fun _ _ e _ => e, fun _ h => .inr h⟩
theorem Stp.trans (a : Stp H S H1 S1) (b : Stp H1 S1 H2 S2) : Stp H S H2 S2 := by
  refine ⟨fun c o e n => b.1 c o (a.1 c o e n) fun z => ?_, fun c h => ?_⟩
  · rcases a.2 c z with q | q
    · rw [e] at q; cases q
    · exact n q
  · rcases b.2 c h with q | q
    · by_cases hs : S c
      · exact .inr hs
      · cases e : H c with
        | none => exact .inl rfl
        | some o => rw [a.1 c o e hs] at q; cases q
    · exact a.2 c q
theorem Stp.same {H' : Hp} (k : ∀ b o, H b = some o → H' b = some o) : Stp H S H' S := ⟨fun b o e _ => k b o e, fun _ h => .inr h⟩
theorem Stp.sub (a : Stp H S H1 S1) (h : ∀ b, S2 b → S1 b) : Stp H S H1 S2 := ⟨a.1, fun b q => a.2 b (h b q)⟩
theorem Stp.weak (a : Stp H S H1 S1) (h : ∀ b, S b → S2 b) : Stp H S2 H1 S1 := ⟨fun b o e n => a.1 b o e fun q => n (h b q), fun b q => (a.2 b q).imp id (h b)⟩
/-- a part that is not touched is carried along -/
theorem Stp.frame {g : List Addr} (a : Stp H S H1 S1) : Stp H (plus S g) H1 (plus S1 g) :=
  ⟨fun b o e n => a.1 b o e fun q => n (.inl q), fun b q => q.elim (fun q => (a.2 b q).imp id .inl) fun q => .inr (.inr q)⟩
theorem Stp.new {g : List Addr} (a : Stp H S H1 S1) (n : ∀ b ∈ g, H1 b = none) : Stp H S H1 (plus S1 g) := by
  refine ⟨a.1, fun b q => q.elim (a.2 b) fun q => ?_⟩
  by_cases hs : S b
  · exact .inr hs
  · cases e : H b with
    | none => exact .inl rfl
    | some o =>
      have := a.1 b o e hs
      rw [n b q] at this; cases this
end
theorem EnvR.stay {K : PySem.W.Frag} {A : Nat → Addr} {σ : St} {H H' : Hp} {ρ : Rho} {F : Fp} (e : EnvR K A σ H ρ F) (k : ∀ b o, H b = some o → (Fix o ∨ fsS F b) → H' b = some o) : EnvR K A σ H' ρ F := by
  refine ⟨fun i s d h1 h2 => ?_, e.io, e.emp, e.nd, e.dj, e.len⟩
  obtain ⟨v, q, w⟩ := e.rep i s d h1 h2
  exact ⟨v, q, w.stay fun b o e x => k b o e (x.imp id fun z => ⟨i, z⟩)⟩
/-- a step keeps what is fixed -/
theorem Stp.fix {K : PySem.W.Frag} {A : Nat → Addr} {σ : St} {H H' : Hp} {ρ : Rho} {F : Fp} {S' : Addr → Prop} (st : Stp H (fsS F) H' S') (e : EnvR K A σ H ρ F) : ∀ b o, H b = some o → Fix o → H' b = some o :=
  fun b o h x => st.1 b o h (e.notFix h x)
/-- a temporary's part over a step -/
theorem Ow.step {K : PySem.W.Frag} {A : Nat → Addr} {σ : St} {H H' : Hp} {ρ : Rho} {F : Fp} {S' : Addr → Prop} {v : V} {d : D} {g : List Addr} (w : Ow K H v d g) (dj : ∀ a ∈ g, ¬ fsS F a) (st : Stp H (fsS F) H' S') (e : EnvR K A σ H ρ F) : Ow K H' v d g :=
  w.stay fun b o h x => st.1 b o h (x.elim (fun x => e.notFix h x) fun x => dj b x)
theorem Ow.apart {K : PySem.W.Frag} {H H' : Hp} {S S' : Addr → Prop} {v : V} {d : D} {g : List Addr} (w : Ow K H v d g) (dj : ∀ a ∈ g, ¬ S a) (st : Stp H S H' S') : ∀ a ∈ g, ¬ S' a := fun a ha q => by
  obtain ⟨o, e, _⟩ := w.mut a ha
  rcases st.2 a q with z | z
  · rw [e] at z; cases z
  · exact dj a ha z
end EE

/-! layer E, part B: outcomes, the judgements, expressions -/
namespace EE
open PySem PySem.Spec
open PyProof.Rows hiding St
open L2

inductive Out (α : Type) where
  | ok (a : α) (ρ : Rho) | err (c : Str) (fs : List (Str × D)) (ρ : Rho) | no
def Out.bind {α β : Type} (o : Out α) (k : α → Rho → Out β) : Out β :=
  match o with
  | .ok a ρ => k a ρ
  | .err c fs ρ => .err c fs ρ
  | .no => .no
@[simp] theorem Out.bind_ok {α β : Type} (a : α) (ρ : Rho) (k : α → Rho → Out β) : (Out.ok a ρ).bind k = k a ρ := rfl
@[simp] theorem Out.bind_err {α β : Type} (c : Str) (fs : List (Str × D)) (ρ : Rho) (k : α → Rho → Out β) : (Out.err c fs ρ : Out α).bind k = .err c fs ρ := rfl
@[simp] theorem Out.bind_no {α β : Type} (k : α → Rho → Out β) : (Out.no : Out α).bind k = .no := rfl

/-- a result: a value, or the thing that a slot holds -/
inductive R where
  | val (d : D) | bor (i : Nat)
def slot (ρ : Rho) (i : Nat) : Option D := match ρ[i]? with
  | some s => s.dat
  | none => none
def rd (ρ : Rho) : R → Option D
  | .val d => some d
  | .bor i => slot ρ i
def rds (ρ : Rho) : List R → Option (List D)
  | [] => some []
  | r :: rs => match rd ρ r, rds ρ rs with
    | some d, some ds => some (d :: ds)
    | _, _ => none
@[simp] theorem rd_val (ρ : Rho) (d : D) : rd ρ (.val d) = some d := rfl
@[simp] theorem rd_bor (ρ : Rho) (i : Nat) : rd ρ (.bor i) = slot ρ i := rfl
@[simp] theorem rds_nil (ρ : Rho) : rds ρ [] = some [] := rfl

abbrev FE := Rho → Out R
abbrev FA := Rho → Out (List R)
abbrev FT := Rho → Out Bool

def XR (K : PySem.W.Frag) (H : Hp) (od : Option Addr) (fs : List (Str × D)) : Prop :=
  (od = none ∧ fs = []) ∨ ∃ dx vs, od = some dx ∧ H dx = some (.xd vs) ∧ vs.length = fs.length ∧
    ∀ (i : Nat) (p : Str × V) (q : Str × D), vs[i]? = some p → fs[i]? = some q → p.1 = q.1 ∧ Fz K H p.2 q.2

structure Ct where
  K : PySem.W.Frag
  mg : Str → Option Value
  W : WX
/-- in a comprehension's block nothing is let out -/
def Ct.blk (Γ : Ct) : Ct := ⟨Γ.K, Γ.mg, fun _ _ _ _ => False⟩

def ResR (K : PySem.W.Frag) (σ : L2.St) (H : Hp) (F : Fp) : R → V → List Addr → Prop
  | .val d, v, g => Ow K H v d g ∧ g.Nodup ∧ ∀ a ∈ g, ¬ fsS F a
  | .bor i, v, g => σ[i]? = some (some v) ∧ g = []
inductive ResL (K : PySem.W.Frag) (σ : L2.St) (H : Hp) (F : Fp) : List R → List V → List Addr → Prop where
  | nil : ResL K σ H F [] [] []
  | cons {r : R} {v : V} {g : List Addr} {rs : List R} {vs : List V} {gs : List Addr} : ResR K σ H F r v g → ResL K σ H F rs vs gs → (∀ a ∈ g, a ∉ gs) → ResL K σ H F (r :: rs) (v :: vs) (g ++ gs)
def ResB : L2.St → Hp → Fp → Bool → Bool → List Addr → Prop := fun _ _ _ b c g => b = c ∧ g = []

def Go {α β : Type} (Γ : Ct) (A : Nat → Addr) (rel : L2.St → Hp → Fp → α → β → List Addr → Prop) (σ : L2.St) (H : Hp) (S : Addr → Prop) (o : Out α) (Q : β → Hp → Prop) : Prop :=
  match o with
  | .ok r ρ' => ∀ v H' F' g, EnvR Γ.K A σ H' ρ' F' → Stp H S H' (plus (fsS F') g) → rel σ H' F' r v g → Q v H'
  | .err c fs ρ' => ∀ C od H' F', Γ.mg c = some (.ref C) → EnvR Γ.K A σ H' ρ' F' → Stp H S H' (fsS F') → XR Γ.K H' od fs → Γ.W (.ref C) od σ H'
  | .no => False
def tE (Γ : Ct) (f : FE) : TE := fun σ H Q => ∃ ρ A F, EnvR Γ.K A σ H ρ F ∧ Go Γ A (ResR Γ.K) σ H (fsS F) (f ρ) Q
def tA (Γ : Ct) (f : FA) : TA := fun σ H Q => ∃ ρ A F, EnvR Γ.K A σ H ρ F ∧ Go Γ A (ResL Γ.K) σ H (fsS F) (f ρ) Q
def tT (Γ : Ct) (f : FT) : TT := fun σ H Q => ∃ ρ A F, EnvR Γ.K A σ H ρ F ∧ Go Γ A ResB σ H (fsS F) (f ρ) Q

section
variable {Γ : Ct} {A : Nat → Addr} {σ : L2.St} {H H1 : Hp} {S S1 : Addr → Prop}
theorem Go.bind {α β γ δ : Type} {rel1 : L2.St → Hp → Fp → α → β → List Addr → Prop} {rel2 : L2.St → Hp → Fp → γ → δ → List Addr → Prop} {o : Out α} {k : α → Rho → Out γ} {Q : δ → Hp → Prop} {Q1 : β → Hp → Prop}
    (h : Go Γ A rel2 σ H S (o.bind k) Q) (st : Stp H S H1 S1)
    (hk : ∀ r ρ2 v H2 F2 g, o = .ok r ρ2 → EnvR Γ.K A σ H2 ρ2 F2 → Stp H1 S1 H2 (plus (fsS F2) g) → rel1 σ H2 F2 r v g → Go Γ A rel2 σ H S (k r ρ2) Q → Q1 v H2) : Go Γ A rel1 σ H1 S1 o Q1 := by
  cases o with
  | ok r ρ2 => exact fun v H2 F2 g e s q => hk r ρ2 v H2 F2 g rfl e s q h
  | err c fs ρ2 => exact fun C od H' F' hm e s x => h C od H' F' hm e (st.trans s) x
  | no => exact h
theorem Go.ok {α β : Type} {rel : L2.St → Hp → Fp → α → β → List Addr → Prop} {r : α} {ρ : Rho} {Q : β → Hp → Prop} {v : β} {F1 : Fp} {g : List Addr} (h : Go Γ A rel σ H S (.ok r ρ) Q) (e : EnvR Γ.K A σ H1 ρ F1) (st : Stp H S H1 (plus (fsS F1) g)) (q : rel σ H1 F1 r v g) : Q v H1 := h v H1 F1 g e st q
theorem ResR.step {F F' : Fp} {r : R} {v : V} {g : List Addr} {S' : Addr → Prop} {H' : Hp} {ρ : Rho} (q : ResR Γ.K σ H F r v g) (e : EnvR Γ.K A σ H ρ F) (st : Stp H (fsS F) H' S') (hs : ∀ a, fsS F' a → S' a) : ResR Γ.K σ H' F' r v g := by
  cases r with
  | val d =>
    obtain ⟨w, nd, dj⟩ := q
    exact ⟨w.step dj st e, nd, fun a ha z => w.apart dj st a ha (hs a z)⟩
  | bor i => exact q
theorem ResR.apart {F : Fp} {r : R} {v : V} {g : List Addr} {S' : Addr → Prop} {H' : Hp} (q : ResR Γ.K σ H F r v g) (st : Stp H (fsS F) H' S') : ∀ a ∈ g, ¬ S' a := by
  cases r with
  | val d =>
    obtain ⟨w, nd, dj⟩ := q
    exact w.apart dj st
  | bor i =>
    obtain ⟨_, rfl⟩ := q
    intro a ha; cases ha
/-- what a result holds -/
theorem ResR.read {F : Fp} {r : R} {v : V} {g : List Addr} {ρ : Rho} {d : D} (q : ResR Γ.K σ H F r v g) (e : EnvR Γ.K A σ H ρ F) (h : rd ρ r = some d) : ∃ g', Ow Γ.K H v d g' := by
  cases r with
  | val x =>
    obtain ⟨w, nd, dj⟩ := q
    cases h
    exact ⟨g, w⟩
  | bor i =>
    obtain ⟨h1, _⟩ := q
    have h : slot ρ i = some d := h
    unfold slot at h
    cases e1 : ρ[i]? with
    | none => rw [e1] at h; cases h
    | some s =>
      rw [e1] at h
      obtain ⟨v', q1, w⟩ := e.rep i s d e1 h
      rw [h1] at q1; cases q1
      exact ⟨_, w⟩
def Rds (K : PySem.W.Frag) (H : Hp) : List V → List D → Prop
  | [], [] => True
  | v :: vs, d :: ds => (∃ g, Ow K H v d g) ∧ Rds K H vs ds
  | _, _ => False
theorem ResL.read {F : Fp} {ρ : Rho} (e : EnvR Γ.K A σ H ρ F) {rs : List R} {vs : List V} {g : List Addr} (q : ResL Γ.K σ H F rs vs g) : ∀ {ds : List D}, rds ρ rs = some ds → Rds Γ.K H vs ds := by
  induction q with
  | nil => intro ds h; cases h; trivial
  | @cons r v g rs vs gs q t _ ih =>
    intro ds h
    unfold rds at h
    cases e1 : rd ρ r with
    | none => rw [e1] at h; cases h
    | some d =>
      cases e2 : rds ρ rs with
      | none => rw [e1, e2] at h; cases h
      | some ds' =>
        rw [e1, e2] at h; cases h
        exact ⟨q.read e e1, ih e2⟩
end

theorem plus_nil {S : Addr → Prop} : ∀ b, plus S [] b → S b := fun b q => q.elim id fun z => nomatch z
theorem PE.imp {X : Cx} {e : Expr} {t t' : TE} (h : PE X e t) (k : ∀ σ H Q, t' σ H Q → t σ H Q) : PE X e t' := ⟨fun pins s σ H Q I q => h.run pins s σ H Q I (k _ _ _ q)⟩
theorem PA.imp {X : Cx} {e : List Expr} {t t' : TA} (h : PA X e t) (k : ∀ σ H Q, t' σ H Q → t σ H Q) : PA X e t' := ⟨fun pos pins s σ H Q I q => h.run pos pins s σ H Q I (k _ _ _ q)⟩
theorem PT.imp {X : Cx} {e : Expr} {t t' : TT} (h : PT X e t) (k : ∀ σ H Q, t' σ H Q → t σ H Q) : PT X e t' := ⟨fun pins s σ H Q I q => h.run pins s σ H Q I (k _ _ _ q)⟩
theorem PW.imp {X : Cx} {e : Expr} {t t' : TT} (h : PW X e t) (k : ∀ σ H Q, t' σ H Q → t σ H Q) : PW X e t' := ⟨fun wh pins s σ H Q I q => h.run wh pins s σ H Q I (k _ _ _ q)⟩
theorem PS.imp {X : Cx} {e : Stmt} {t t' : TS} (h : PS X e t) (k : ∀ D σ H, t' D σ H → t D σ H) : PS X e t' := ⟨fun pins s σ H D I q => h.run pins s σ H D I (k _ _ _ q)⟩
theorem PSs.imp {X : Cx} {e : List Stmt} {t t' : TS} (h : PSs X e t) (k : ∀ D σ H, t' D σ H → t D σ H) : PSs X e t' := ⟨fun pins s σ H D I q => h.run pins s σ H D I (k _ _ _ q)⟩
theorem PG.imp {X : Cx} {e : Expr} {t t' : TG} (h : PG X e t) (k : ∀ v σ H Q, t' v σ H Q → t v σ H Q) : PG X e t' := ⟨fun pins s σ H v u Q I r q => h.run pins s σ H v u Q I r (k _ _ _ _ q)⟩
/-- a step that only the bookkeeping sees -/
theorem PE.gh {X : Cx} {e : Expr} {t : TE} (h : PE X e t) : PE X e (fun σ H Q => t σ H fun v H1 => ∀ pins s, Inv X pins σ H1 s → ∃ H2, Inv X pins σ H2 s ∧ Q v H2) := by
  refine ⟨fun pins s σ H Q I q => ?_⟩
  refine thn (h.run pins s σ H _ I q) fun v s1 ⟨x, H1, I1, r1, q1⟩ => ?_
  obtain ⟨H2, I2, q2⟩ := q1 pins s1 I1
  exact ⟨x, H2, I2, r1, q2⟩

/-! ### the judgements in short -/
abbrev XE' (X : Cx) (Γ : Ct) (e : Expr) (f : FE) : Prop := PE X e (tE Γ f)
abbrev XA' (X : Cx) (Γ : Ct) (e : List Expr) (f : FA) : Prop := PA X e (tA Γ f)
abbrev XT' (X : Cx) (Γ : Ct) (e : Expr) (f : FT) : Prop := PT X e (tT Γ f)
/-- the context and the judgement's fit -/
structure Fit (X : Cx) (Γ : Ct) : Prop where
  K : Γ.K = X.K
  mg : Γ.mg = X.mg
  exc : ∀ σ, PassesAt (L2.CX X.prog X.w) X σ (WE Γ.W σ)
  calm : X.calm = true

section
variable {X : Cx} {Γ : Ct}
/-! ### names, constants -/
def fName (i : Nat) : FE := fun ρ => match slot ρ i with
  | some _ => .ok (.bor i) ρ
  | none => .no
theorem x_name {i : Nat} {x : Str} {pos : Pos} (hN : X.N[i]? = some x := by rfl) (hv : Vis X.env.scope x := by first | exact Or.inl rfl | exact Or.inr (Or.inl rfl) | exact Or.inr (Or.inr rfl)) (hd : (x == ("__debug__" : Str)) = false := by decide)
    (hcd : (x == ("__classdict__" : Str)) = false := by decide) : XE' X Γ (.Name x pos) (fName i) := by
  refine PE.imp (pe_var hN hv hd hcd) fun σ H Q ⟨ρ, A, F, e, h⟩ => ?_
  unfold fName at h
  split at h
  · rename_i d hd
    unfold slot at hd
    split at hd
    · rename_i s hs
      obtain ⟨v, hv, w⟩ := e.rep i s d hs hd
      exact ⟨v, hv, Go.ok (g := []) h e (Stp.refl.sub plus_nil) ⟨hv, rfl⟩⟩
    · cases hd
  · exact False.elim h
def fC (d : D) : FE := fun ρ => .ok (.val d) ρ
theorem fC_ok {d : D} {v : V} {σ : L2.St} {H : Hp} {Q : VK} (h : tE Γ (fC d) σ H Q) (w : Fz Γ.K H v d) : Q v H := by
  obtain ⟨ρ, A, F, e, h⟩ := h
  exact Go.ok (g := []) h e (Stp.refl.sub plus_nil) ⟨.fz w, List.nodup_nil, fun a ha => nomatch ha⟩
theorem x_int {i j pos} : XE' X Γ (.Constant (.int i) j pos) (fC (.int i)) := PE.imp pe_int fun _ _ _ h => fC_ok h (.int i)
theorem x_bl {b j pos} : XE' X Γ (.Constant (.bool b) j pos) (fC (.bl b)) := PE.imp pe_bl fun _ _ _ h => fC_ok h (.bl b)
theorem x_non {j pos} : XE' X Γ (.Constant .none j pos) (fC .non) := PE.imp pe_non fun _ _ _ h => fC_ok h .non
theorem x_str {x j pos} : XE' X Γ (.Constant (.str x) j pos) (fC (.str x)) := PE.imp pe_str fun _ _ _ h => fC_ok h (.str x)

/-! ### two places -/
/-- a new value: the heap only grows -/
def PR (K : PySem.W.Frag) (H : Hp) (z : D) (Q : VK) : Prop := ∀ v' H' g, (∀ b o, H b = some o → H' b = some o) → Ow K H' v' z g → g.Nodup → (∀ a ∈ g, H a = none) → Q v' H'
theorem PR.here {K : PySem.W.Frag} {H : Hp} {z : D} {Q : VK} {v : V} (h : PR K H z Q) (w : Fz K H v z) : Q v H := h v H [] (fun _ _ e => e) (.fz w) List.nodup_nil fun _ h => nomatch h
def rSem2 (K : PySem.W.Frag) (op : D → D → Option D) : R2 := fun v w H Q => ∃ x y z g1 g2, Ow K H v x g1 ∧ Ow K H w y g2 ∧ op x y = some z ∧ PR K H z Q
def out2 (op : D → D → Option D) (ρ : Rho) (a b : R) : Out R := match rd ρ a, rd ρ b with
  | some x, some y => match op x y with
    | some z => .ok (.val z) ρ
    | none => .no
  | _, _ => .no
def fOp2 (op : D → D → Option D) (fa fb : FE) : FE := fun ρ => (fa ρ).bind fun a ρ1 => (fb ρ1).bind fun b ρ2 => out2 op ρ2 a b
/-- the end of an operation that only reads and makes something new -/
theorem Go.new {A : Nat → Addr} {σ : L2.St} {H H1 : Hp} {S : Addr → Prop} {ρ : Rho} {F : Fp} {z : D} {Q : VK} {g0 : List Addr} (h : Go Γ A (ResR Γ.K) σ H S (.ok (.val z) ρ) Q) (e : EnvR Γ.K A σ H1 ρ F) (st : Stp H S H1 (plus (fsS F) g0)) : PR Γ.K H1 z Q := by
  intro v' H' g k w nd nw
  refine h v' H' F g (e.stay fun b o q _ => k b o q) ?_ ⟨w, nd, fun a ha q => ?_⟩
  · exact ((st.sub fun b q => .inl q).new nw).trans (Stp.same k)
  · obtain ⟨o, eo, _⟩ := e.mut q
    rw [nw a ha] at eo; cases eo
theorem op2_go {op : D → D → Option D} {fa fb : FE} {r : R2} (hr : ∀ v w H Q, rSem2 Γ.K op v w H Q → r v w H Q) (σ : L2.St) (H : Hp) (Q : VK) (h : tE Γ (fOp2 op fa fb) σ H Q) : tOp r (tE Γ fa) (tE Γ fb) σ H Q := by
  obtain ⟨ρ, A, F, e, h⟩ := h
  refine ⟨ρ, A, F, e, Go.bind h Stp.refl fun a ρ1 v H1 F1 g1 _ e1 st1 q1 h1 => ?_⟩
  refine ⟨ρ1, A, F1, e1, Go.bind h1 (st1.sub fun b q => .inl q) fun b ρ2 w H2 F2 g2 _ e2 st2 q2 h2 => ?_⟩
  unfold out2 at h2
  split at h2
  · rename_i x y hx hy
    split at h2
    · rename_i z hz
      obtain ⟨ga, wa⟩ := (q1.step (F' := F2) e1 st2 fun a z => .inl z).read e2 hx
      obtain ⟨gb, wb⟩ := q2.read e2 hy
      exact hr v w H2 Q ⟨x, y, z, ga, gb, wa, wb, hz, h2.new e2 ((st1.sub fun b q => .inl q).trans st2)⟩
    · exact False.elim h2
  · exact False.elim h2
theorem x_bin {op : Operator} {r : R2} {sem : D → D → Option D} {a b : Expr} {fa fb : FE} {pos : Pos} (ho : OpR X (binaryOp op) r) (hr : ∀ v w H Q, rSem2 Γ.K sem v w H Q → r v w H Q) (ha : XE' X Γ a fa) (hb : XE' X Γ b fb) : XE' X Γ (.BinOp a op b pos) (fOp2 sem fa fb) :=
  PE.imp (pe_op ho ha hb) (op2_go hr)
theorem x_cmp {op : CmpOp} {r : R2} {sem : D → D → Option D} {a b : Expr} {fa fb : FE} {pos : Pos} (ho : OpR X (compareOp op) r) (hr : ∀ v w H Q, rSem2 Γ.K sem v w H Q → r v w H Q) (ha : XE' X Γ a fa) (hb : XE' X Γ b fb) (hm : behindInMarks op b = false) : XE' X Γ (.Compare a [op] [b] pos) (fOp2 sem fa fb) :=
  PE.imp (pe_cmpR ho ha hb hm) (op2_go hr)
theorem x_ix {r : R2} {sem : D → D → Option D} {a b : Expr} {fa fb : FE} {pos : Pos} (ho : IxR X r) (hr : ∀ v w H Q, rSem2 Γ.K sem v w H Q → r v w H Q) (ha : XE' X Γ a fa) (hb : XE' X Γ b fb) (hs : PlainIx b := by exact fun _ _ => rfl) : XE' X Γ (.Subscript a b pos) (fOp2 sem fa fb) :=
  PE.imp (pe_ix ho ha hb hs) (op2_go hr)
/-! ### one place -/
def rSem1 (K : PySem.W.Frag) (op : D → Option D) : V → Hp → VK → Prop := fun v H Q => ∃ x z g, Ow K H v x g ∧ op x = some z ∧ PR K H z Q
def out1 (op : D → Option D) (ρ : Rho) (a : R) : Out R := match rd ρ a with
  | some x => match op x with
    | some z => .ok (.val z) ρ
    | none => .no
  | _ => .no
def fOp1 (op : D → Option D) (fa : FE) : FE := fun ρ => (fa ρ).bind fun a ρ1 => out1 op ρ1 a
theorem op1_go {op : D → Option D} {fa : FE} {r : V → Hp → VK → Prop} (hr : ∀ v H Q, rSem1 Γ.K op v H Q → r v H Q) (σ : L2.St) (H : Hp) (Q : VK) (h : tE Γ (fOp1 op fa) σ H Q) : tUn r (tE Γ fa) σ H Q := by
  obtain ⟨ρ, A, F, e, h⟩ := h
  refine ⟨ρ, A, F, e, Go.bind h Stp.refl fun a ρ1 v H1 F1 g1 _ e1 st1 q1 h1 => ?_⟩
  unfold out1 at h1
  split at h1
  · rename_i x hx
    split at h1
    · rename_i z hz
      obtain ⟨ga, wa⟩ := q1.read e1 hx
      exact hr v H1 Q ⟨x, z, ga, wa, hz, h1.new e1 st1⟩
    · exact False.elim h1
  · exact False.elim h1
theorem x_un {op : UnaryOp} {r : V → Hp → VK → Prop} {sem : D → Option D} {a : Expr} {fa : FE} {pos : Pos} (ho : UnR X (unaryOp op) r) (hr : ∀ v H Q, rSem1 Γ.K sem v H Q → r v H Q) (ha : XE' X Γ a fa) : XE' X Γ (.UnaryOp op a pos) (fOp1 sem fa) :=
  PE.imp (pe_un ho ha) (op1_go hr)

/-! ### arguments -/
def faNil : FA := fun ρ => .ok [] ρ
def faCons (f : FE) (fs : FA) : FA := fun ρ => (f ρ).bind fun r ρ1 => (fs ρ1).bind fun rs ρ2 => .ok (r :: rs) ρ2
theorem xa_nil : XA' X Γ [] faNil := by
  refine PA.imp pa_nil fun σ H Q ⟨ρ, A, F, e, h⟩ => ?_
  exact Go.ok (g := []) h e (Stp.refl.sub plus_nil) .nil
theorem xa_cons {e : Expr} {es : List Expr} {f : FE} {fs : FA} (ha : XE' X Γ e f) (hr : XA' X Γ es fs) (hs : starEach (e :: es) X.env = (false, eval e X.env) :: starEach es X.env := by rfl) : XA' X Γ (e :: es) (faCons f fs) := by
  refine PA.imp (pa_cons ha hr hs) fun σ H Q ⟨ρ, A, F, e, h⟩ => ?_
  refine ⟨ρ, A, F, e, Go.bind h Stp.refl fun a ρ1 v H1 F1 g1 _ e1 st1 q1 h1 => ?_⟩
  refine ⟨ρ1, A, F1, e1, Go.bind h1 (st1.sub fun b q => .inl q) fun rs ρ2 vs H2 F2 g2 _ e2 st2 q2 h2 => ?_⟩
  have st2' : Stp H1 (plus (fsS F1) g1) H2 (plus (fsS F2) (g1 ++ g2)) := st2.frame.sub fun b q => by
    rcases q with q | q
    · exact .inl (.inl q)
    · rcases List.mem_append.mp q with q | q
      · exact .inr q
      · exact .inl (.inr q)
  exact Go.ok h2 e2 (st1.trans st2') (.cons (q1.step e1 st2 fun a z => .inl z) q2 fun a ha z => q1.apart st2 a ha (.inr z))
/-! ### built-in functions that read -/
def rSemL (K : PySem.W.Frag) (sem : List D → Option D) : List V → Hp → VK → Prop := fun vs H Q => ∃ ds z, Rds K H vs ds ∧ sem ds = some z ∧ PR K H z Q
def outL (sem : List D → Option D) (ρ : Rho) (rs : List R) : Out R := match rds ρ rs with
  | some ds => match sem ds with
    | some z => .ok (.val z) ρ
    | none => .no
  | none => .no
def fCall (sem : List D → Option D) (fs : FA) : FE := fun ρ => (fs ρ).bind fun rs ρ1 => outL sem ρ1 rs
theorem call_go {sem : List D → Option D} {fs : FA} {r : List V → Hp → VK → Prop} (hr : ∀ v H Q, rSemL Γ.K sem v H Q → r v H Q) (σ : L2.St) (H : Hp) (Q : VK) (h : tE Γ (fCall sem fs) σ H Q) : tCB r (tA Γ fs) σ H Q := by
  obtain ⟨ρ, A, F, e, h⟩ := h
  refine ⟨ρ, A, F, e, Go.bind h Stp.refl fun rs ρ1 vs H1 F1 g1 _ e1 st1 q1 h1 => ?_⟩
  unfold outL at h1
  split at h1
  · rename_i ds hx
    split at h1
    · rename_i z hz
      exact hr vs H1 Q ⟨ds, z, q1.read e1 hx, hz, h1.new e1 st1⟩
    · exact False.elim h1
  · exact False.elim h1
theorem x_callB {x : Str} {id : String} {r : List V → Hp → VK → Prop} {sem : List D → Option D} {e : Expr} {es : List Expr} {fs : FA} {p pos : Pos} (hc : CallR X (.builtin id) r) (hr : ∀ v H Q, rSemL Γ.K sem v H Q → r v H Q) (hg : Gl X x) (hm : X.mg x = none) (hv : bootBuiltins x = some (.builtin id))
    (ha : XA' X Γ (e :: es) fs) (hn : x ≠ "__name__" := by decide) (hdb : (x == ("__debug__" : Str)) = false := by decide)
    (he : starEach (e :: es) X.env = (false, eval e X.env) :: starEach es X.env := by rfl) (hpl : (backTo pos (starEach es X.env)).any (·.1) = false := by rfl) : XE' X Γ (.Call (.Name x p) (e :: es) [] pos) (fCall sem fs) :=
  PE.imp (pe_callB hc hg hm hv ha hn hdb he hpl) (call_go hr)
theorem x_callTy {x : Str} {T : String} {r : List V → Hp → VK → Prop} {sem : List D → Option D} {e : Expr} {es : List Expr} {fs : FA} {p pos : Pos} (hc : CallR X (.type T) r) (hr : ∀ v H Q, rSemL Γ.K sem v H Q → r v H Q) (hg : Gl X x) (hm : X.mg x = none) (hv : bootBuiltins x = some (.type T))
    (ha : XA' X Γ (e :: es) fs) (hn : x ≠ "__name__" := by decide) (hdb : (x == ("__debug__" : Str)) = false := by decide)
    (he : starEach (e :: es) X.env = (false, eval e X.env) :: starEach es X.env := by rfl) (hpl : (backTo pos (starEach es X.env)).any (·.1) = false := by rfl) : XE' X Γ (.Call (.Name x p) (e :: es) [] pos) (fCall sem fs) :=
  PE.imp (pe_callTy hc hg hm hv ha hn hdb he hpl) (call_go hr)
end
end EE

/-! layer E, part C: slots changed, owning, displays, tests, choices -/
namespace EE
open PySem PySem.Spec
open PyProof.Rows hiding St
open L2

def Fp.put (F : Fp) (i : Nat) (g : List Addr) : Fp := fun j => if j = i then g else F j
theorem Fp.put_same {F : Fp} {i : Nat} {g : List Addr} : F.put i g i = g := by unfold Fp.put; rw [if_pos rfl]
theorem Fp.put_ne {F : Fp} {i j : Nat} {g : List Addr} (h : j ≠ i) : F.put i g j = F j := by unfold Fp.put; rw [if_neg h]
theorem Fp.put_sub {F : Fp} {i : Nat} {g : List Addr} {b : Addr} (h : fsS (F.put i g) b) : plus (fsS F) g b := by
  obtain ⟨j, h⟩ := h
  by_cases hj : j = i
  · subst hj; rw [Fp.put_same] at h; exact .inr h
  · rw [Fp.put_ne hj] at h; exact .inl ⟨j, h⟩
section
variable {K : PySem.W.Frag} {A : Nat → Addr} {σ σ' : L2.St} {H : Hp} {ρ : Rho} {F : Fp} {i : Nat} {v : V} {d : D} {g : List Addr}
/-- a slot is stored -/
theorem EnvR.put {s' : Sl} (e : EnvR K A σ H ρ F) (hi : i < ρ.length) (hσ : σ'[i]? = some (some v)) (hσ' : ∀ j, j ≠ i → σ'[j]? = σ[j]?) (hs : s'.dat = some d) (w : Ow K H v d g) (nd : g.Nodup) (dj : ∀ a ∈ g, ∀ j, j ≠ i → a ∉ F j)
    (hio : ∀ x, s' = .io x → v = .ref (A i)) (hl : σ'.length = σ.length) : EnvR K A σ' H (ρ.set i s') (F.put i g) := by
  refine ⟨fun j s x h1 h2 => ?_, fun j x h1 => ?_, fun j a ha => ?_, fun j => ?_, fun j k a h1 h2 => ?_, by rw [List.length_set, hl]; exact e.len⟩
  · by_cases hj : j = i
    · subst hj
      rw [List.getElem?_set_self hi] at h1
      cases h1
      rw [hs] at h2; cases h2
      rw [Fp.put_same]
      exact ⟨v, hσ, w⟩
    · rw [List.getElem?_set_ne (Ne.symm hj)] at h1
      rw [Fp.put_ne hj, hσ' j hj]
      exact e.rep j s x h1 h2
  · by_cases hj : j = i
    · subst hj
      rw [List.getElem?_set_self hi] at h1
      cases h1
      rw [hσ, hio x rfl]
    · rw [List.getElem?_set_ne (Ne.symm hj)] at h1
      rw [hσ' j hj]
      exact e.io j x h1
  · by_cases hj : j = i
    · subst hj
      exact ⟨s', d, List.getElem?_set_self hi, hs⟩
    · rw [Fp.put_ne hj] at ha
      rw [List.getElem?_set_ne (Ne.symm hj)]
      exact e.emp j a ha
  · by_cases hj : j = i
    · subst hj; rw [Fp.put_same]; exact nd
    · rw [Fp.put_ne hj]; exact e.nd j
  · by_cases hj : j = i
    · subst hj
      rw [Fp.put_same] at h1
      by_cases hk : k = j
      · exact hk.symm
      · rw [Fp.put_ne hk] at h2
        exact absurd h2 (dj a h1 k hk)
    · rw [Fp.put_ne hj] at h1
      by_cases hk : k = i
      · subst hk
        rw [Fp.put_same] at h2
        exact absurd h1 (dj a h2 j hj)
      · rw [Fp.put_ne hk] at h2
        exact e.dj j k a h1 h2
theorem slot_at (h : slot ρ i = some d) : ∃ s, ρ[i]? = some s ∧ s.dat = some d ∧ i < ρ.length := by
  unfold slot at h
  split at h
  · rename_i s hs
    exact ⟨s, hs, h, (List.getElem?_eq_some_iff.mp hs).1⟩
  · cases h
end

section
variable {X : Cx} {Γ : Ct}
/-! ### a value of one's own: what a slot holds is frozen -/
def ownB (i : Nat) (ρ : Rho) : Out R := match ρ[i]? with
  | some (.dt d) => if d.isF then .ok (.val d) ρ else .ok (.val d.frz) (ρ.set i (.dt d.frz))
  | some (.io d) => if d.isF then .ok (.val d) ρ else .no
  | _ => .no
def own (r : R) (ρ : Rho) : Out R := match r with
  | .val d => .ok (.val d) ρ
  | .bor i => ownB i ρ
def fOwn (f : FE) : FE := fun ρ => (f ρ).bind own
theorem x_own {e : Expr} {f : FE} (h : XE' X Γ e f) : XE' X Γ e (fOwn f) := by
  refine PE.imp (PE.gh h) fun σ H Q ⟨ρ, A, F, e, h⟩ => ?_
  refine ⟨ρ, A, F, e, Go.bind h Stp.refl fun r ρ1 v H1 F1 g1 _ e1 st1 q1 h1 pins s I => ?_⟩
  cases r with
  | val d => exact ⟨H1, I, h1.ok e1 st1 q1⟩
  | bor i =>
    obtain ⟨hv, rfl⟩ := q1
    have h1 : Go Γ A (ResR Γ.K) σ H (fsS F) (ownB i ρ1) Q := h1
    unfold ownB at h1
    have st0 : Stp H (fsS F) H1 (fsS F1) := st1.sub fun b q => .inl q
    split at h1
    · rename_i d hd
      obtain ⟨v', hv', w⟩ := e1.rep i _ d hd rfl
      rw [hv] at hv'; cases hv'
      split at h1
      · rename_i hf
        exact ⟨H1, I, Go.ok (g := []) h1 e1 st1 ⟨.fz (w.isF hf).1, List.nodup_nil, fun a ha => nomatch ha⟩⟩
      · obtain ⟨H2, I2, k2, l2⟩ := lockAll (F1 i) H1 I w.mut
        have kf : ∀ b o, H1 b = some o → Fix o → H2 b = some o := fun b o eo x => by
          rw [k2 b fun z => e1.notFix eo x ⟨i, z⟩]; exact eo
        have wz := w.frz kf l2
        have hi := (List.getElem?_eq_some_iff.mp hd).1
        have eA : EnvR Γ.K A σ H2 (ρ1.set i (.dt d.frz)) (F1.put i []) := by
          refine ⟨fun j s x h3 h4 => ?_, fun j x h3 => ?_, fun j a ha => ?_, fun j => ?_, fun j k a h3 h4 => ?_, by rw [List.length_set]; exact e1.len⟩
          · by_cases hj : j = i
            · subst hj
              rw [List.getElem?_set_self hi] at h3
              cases h3; cases h4
              rw [Fp.put_same]
              exact ⟨v, hv, .fz wz⟩
            · rw [List.getElem?_set_ne (Ne.symm hj)] at h3
              rw [Fp.put_ne hj]
              obtain ⟨u, hu, wu⟩ := e1.rep j s x h3 h4
              refine ⟨u, hu, wu.stay fun b o eo z => ?_⟩
              rcases z with z | z
              · exact kf b o eo z
              · rw [k2 b fun z' => hj (e1.dj j i b z z')]; exact eo
          · by_cases hj : j = i
            · subst hj
              rw [List.getElem?_set_self hi] at h3
              cases h3
            · rw [List.getElem?_set_ne (Ne.symm hj)] at h3
              exact e1.io j x h3
          · by_cases hj : j = i
            · subst hj; rw [Fp.put_same] at ha; cases ha
            · rw [Fp.put_ne hj] at ha
              rw [List.getElem?_set_ne (Ne.symm hj)]
              exact e1.emp j a ha
          · by_cases hj : j = i
            · subst hj; rw [Fp.put_same]; exact List.nodup_nil
            · rw [Fp.put_ne hj]; exact e1.nd j
          · by_cases hj : j = i
            · subst hj; rw [Fp.put_same] at h3; cases h3
            · rw [Fp.put_ne hj] at h3
              by_cases hk : k = i
              · subst hk; rw [Fp.put_same] at h4; cases h4
              · rw [Fp.put_ne hk] at h4
                exact e1.dj j k a h3 h4
        have stA : Stp H1 (fsS F1) H2 (plus (fsS (F1.put i [])) []) := by
          refine ⟨fun b o eo n => ?_, fun b z => .inr ?_⟩
          · rw [k2 b fun z => n ⟨i, z⟩]; exact eo
          · rcases z with z | z
            · exact (Fp.put_sub z).elim id fun z => nomatch z
            · cases z
        exact ⟨H2, I2, Go.ok (g := []) h1 eA (st0.trans stA) ⟨.fz wz, List.nodup_nil, fun a ha => nomatch ha⟩⟩
    · rename_i d hd
      obtain ⟨v', hv', w⟩ := e1.rep i _ d hd rfl
      rw [hv] at hv'; cases hv'
      split at h1
      · rename_i hf
        exact ⟨H1, I, Go.ok (g := []) h1 e1 st1 ⟨.fz (w.isF hf).1, List.nodup_nil, fun a ha => nomatch ha⟩⟩
      · exact False.elim h1
    · exact False.elim h1
/-- .. and a new thing is frozen, too -/
def fzz (r : R) (ρ : Rho) : Out R := match r with
  | .val d => if d.isF then .ok (.val d) ρ else .ok (.val d.frz) ρ
  | .bor _ => .no
def fFz (f : FE) : FE := fun ρ => (fOwn f ρ).bind fzz
theorem x_fz {e : Expr} {f : FE} (h : XE' X Γ e f) : XE' X Γ e (fFz f) := by
  refine PE.imp (PE.gh (x_own h)) fun σ H Q ⟨ρ, A, F, e, h⟩ => ?_
  refine ⟨ρ, A, F, e, Go.bind h Stp.refl fun r ρ1 v H1 F1 g1 _ e1 st1 q1 h1 pins s I => ?_⟩
  cases r with
  | bor i => exact False.elim h1
  | val d =>
    obtain ⟨w, nd, dj⟩ := q1
    unfold fzz at h1
    simp only at h1
    split at h1
    · exact ⟨H1, I, h1.ok e1 st1 ⟨w, nd, dj⟩⟩
    · obtain ⟨H2, I2, k2, l2⟩ := lockAll g1 H1 I w.mut
      have kf : ∀ b o, H1 b = some o → Fix o → H2 b = some o := fun b o eo x => by
        rw [k2 b fun z => ?_]
        · exact eo
        · obtain ⟨o', eo', m⟩ := w.mut b z
          rw [eo] at eo'; cases eo'
          exact x.notMut m
      have wz := w.frz kf l2
      refine ⟨H2, I2, Go.ok (g := []) (F1 := F1) h1 (e1.stay fun b o eo z => ?_) ?_ ⟨.fz wz, List.nodup_nil, fun a ha => nomatch ha⟩⟩
      · rcases z with z | z
        · exact kf b o eo z
        · rw [k2 b fun z' => dj b z' z]; exact eo
      · refine ⟨fun b o eo n => ?_, fun b z => ?_⟩
        · rw [k2 b fun z' => ?_]
          · exact st1.1 b o eo n
          · rcases st1.2 b (.inr z') with q | q
            · rw [eo] at q; cases q
            · exact n q
        · rcases z with z | z
          · exact st1.2 b (.inl z)
          · cases z

/-! ### displays -/
def valsOf : List R → Option (List D)
  | [] => some []
  | .val d :: rs => (match valsOf rs with | some ds => some (d :: ds) | none => none)
  | .bor _ :: _ => none
theorem ResL.vals {K : PySem.W.Frag} {σ : L2.St} {H : Hp} {F : Fp} {rs : List R} {vs : List V} {g : List Addr} (q : ResL K σ H F rs vs g) : ∀ {ds : List D}, valsOf rs = some ds →
    ∃ fs : List (List Addr), fs.flatten = g ∧ vs.length = ds.length ∧ fs.length = ds.length ∧ g.Nodup ∧ (∀ a ∈ g, ¬ fsS F a) ∧ ∀ (i : Nat) v d f, vs[i]? = some v → ds[i]? = some d → fs[i]? = some f → Ow K H v d f := by
  induction q with
  | nil => intro ds h; cases h; exact ⟨[], rfl, rfl, rfl, List.nodup_nil, (fun a ha => nomatch ha), fun i v d f e => nomatch e⟩
  | @cons r v g rs vs gs q t dj ih =>
    intro ds h
    cases r with
    | bor i => exact nomatch h
    | val d =>
      unfold valsOf at h
      cases e2 : valsOf rs with
      | none => rw [e2] at h; cases h
      | some ds' =>
        rw [e2] at h; cases h
        obtain ⟨fs, ef, l1, l2, nd, ds, c⟩ := ih e2
        obtain ⟨w, nd1, dj1⟩ := q
        refine ⟨g :: fs, by rw [List.flatten_cons, ef], by simp [l1], by simp [l2], List.nodup_append.mpr ⟨nd1, nd, fun a h1 b h2 e => dj a h1 (e ▸ h2)⟩, fun a ha => ?_, fun i v d f e1 e2 e3 => ?_⟩
        · rcases List.mem_append.mp ha with ha | ha
          · exact dj1 a ha
          · exact ds a ha
        · cases i with
          | zero => simp at e1 e2 e3; subst e1; subst e2; subst e3; exact w
          | succ i => exact c i v d f (by simpa using e1) (by simpa using e2) (by simpa using e3)
def outTup (rs : List R) (ρ : Rho) : Out R := match valsOf rs with
  | some ds => if ds.length ≤ sizeLine then .ok (.val (.nd .tup ds)) ρ else .no
  | none => .no
def outLst (rs : List R) (ρ : Rho) : Out R := match valsOf rs with
  | some ds => if ds.length ≤ sizeLine then .ok (.val (.nd (.lst true) ds)) ρ else .no
  | none => .no
def fTup (fs : FA) : FE := fun ρ => (fs ρ).bind outTup
def fLst (fs : FA) : FE := fun ρ => (fs ρ).bind outLst
theorem upd_keeps {H : Hp} {p : Addr} {o : HO} (np : H p = none) : ∀ b u, H b = some u → upd H p o b = some u := fun b u e => by rw [upd_ne (ne_of_none e np)]; exact e
theorem x_tup {es : List Expr} {fs : FA} {x1 : Nat} {pos : Pos} (h : XA' X Γ es fs) : XE' X Γ (.Tuple es x1 pos) (fTup fs) := by
  refine PE.imp (pe_tup h) fun σ H Q ⟨ρ, A, F, e, h⟩ => ?_
  refine ⟨ρ, A, F, e, Go.bind h Stp.refl fun rs ρ1 vs H1 F1 g1 _ e1 st1 q1 h1 => ?_⟩
  unfold outTup at h1
  split at h1
  · rename_i ds hds
    split at h1
    · rename_i hz
      obtain ⟨fs, rfl, l1, l2, nd, dj, c⟩ := q1.vals hds
      refine ⟨by rw [l1]; exact hz, fun p np => ?_⟩
      have k := upd_keeps (o := .tup vs) np
      refine Go.ok (g := fs.flatten) h1 (e1.stay fun b o q _ => k b o q) (st1.trans (Stp.same k)) ⟨?_, nd, dj⟩
      exact .tup (SqT.of upd_same) l1 l2 fun i v d f e1 e2 e3 => (c i v d f e1 e2 e3).stay fun b o q _ => k b o q
    · exact False.elim h1
  · exact False.elim h1
theorem x_lst {es : List Expr} {fs : FA} {pos : Pos} (h : XA' X Γ es fs) : XE' X Γ (.List es pos) (fLst fs) := by
  refine PE.imp (pe_lst h) fun σ H Q ⟨ρ, A, F, e, h⟩ => ?_
  refine ⟨ρ, A, F, e, Go.bind h Stp.refl fun rs ρ1 vs H1 F1 g1 _ e1 st1 q1 h1 => ?_⟩
  unfold outLst at h1
  split at h1
  · rename_i ds hds
    split at h1
    · rename_i hz
      obtain ⟨fs, rfl, l1, l2, nd, dj, c⟩ := q1.vals hds
      refine ⟨by rw [l1]; exact hz, fun p np => ?_⟩
      have k := upd_keeps (o := .lst vs) np
      have np' : p ∉ fs.flatten := fun z => by
        obtain ⟨i, hi, hz'⟩ := List.getElem_of_mem (List.mem_flatten.mp z).choose_spec.1
        obtain ⟨f, hf, hb⟩ := List.mem_flatten.mp z
        obtain ⟨i, hi, ei⟩ := List.getElem_of_mem hf
        obtain ⟨o, eo, _⟩ := (c i (vs[i]'(by omega)) (ds[i]'(by omega)) f (List.getElem?_eq_getElem _) (List.getElem?_eq_getElem _) (by rw [← ei]; exact List.getElem?_eq_getElem hi)).mut p hb
        rw [np] at eo; cases eo
      refine Go.ok (g := p :: fs.flatten) h1 (e1.stay fun b o q _ => k b o q) ?_ ⟨?_, List.nodup_cons.mpr ⟨np', nd⟩, fun a ha z => ?_⟩
      · have s2 : Stp H (fsS F) H1 (plus (fsS F1) (p :: fs.flatten)) := by
          refine ⟨st1.1, fun b z => ?_⟩
          rcases z with z | z
          · exact st1.2 b (.inl z)
          · rcases List.mem_cons.mp z with rfl | z
            · by_cases hs : fsS F b
              · exact .inr hs
              · cases eb : H b with
                | none => exact .inl rfl
                | some o =>
                  have := st1.1 b o eb hs
                  rw [np] at this; cases this
            · exact st1.2 b (.inr z)
        exact s2.trans (Stp.same k)
      · exact .nd (k := .lst true) (show OwAt _ p (.lst true) vs from upd_same) l1 l2 fun i v d f e1 e2 e3 => (c i v d f e1 e2 e3).stay fun b o q _ => k b o q
      · rcases List.mem_cons.mp ha with rfl | ha
        · obtain ⟨o, eo, _⟩ := e1.mut z
          rw [np] at eo; cases eo
        · exact dj a ha z
    · exact False.elim h1
  · exact False.elim h1

/-! ### tests -/
/-- an expression whose value is True or False -/
def tstB (r : R) (ρ : Rho) : Out Bool := match rd ρ r with
  | some (.bl b) => .ok b ρ
  | _ => .no
def fB (f : FE) : FT := fun ρ => (f ρ).bind tstB
theorem Ow.bl {K : PySem.W.Frag} {H : Hp} {v : V} {b : Bool} {g : List Addr} (w : Ow K H v (.bl b) g) : v = .bl b := by
  cases w with
  | fz h => cases h; rfl
theorem Ow.int {K : PySem.W.Frag} {H : Hp} {v : V} {b : Int} {g : List Addr} (w : Ow K H v (.int b) g) : v = .int b := by
  cases w with
  | fz h => cases h; rfl
theorem Ow.str {K : PySem.W.Frag} {H : Hp} {v : V} {b : Str} {g : List Addr} (w : Ow K H v (.str b) g) : v = .str b := by
  cases w with
  | fz h => cases h; rfl
theorem Ow.non {K : PySem.W.Frag} {H : Hp} {v : V} {g : List Addr} (w : Ow K H v .non g) : v = .non := by
  cases w with
  | fz h => cases h; rfl
theorem fB_go {f : FE} (σ : L2.St) (H : Hp) (Q : Bool → Hp → Prop) (h : tT Γ (fB f) σ H Q) : tE Γ f σ H fun x H' => ∃ k, x = .bl k ∧ Q k H' := by
  obtain ⟨ρ, A, F, e, h⟩ := h
  refine ⟨ρ, A, F, e, Go.bind h Stp.refl fun r ρ1 v H1 F1 g1 _ e1 st1 q1 h1 => ?_⟩
  unfold tstB at h1
  split at h1
  · rename_i b hb
    obtain ⟨g, w⟩ := q1.read e1 hb
    exact ⟨b, w.bl, Go.ok (g := []) h1 e1 (st1.sub fun c q => .inl (plus_nil c q)) ⟨rfl, rfl⟩⟩
  · exact False.elim h1
/-- a test of such an expression (he by intro _; rfl) -/
theorem xt_val {e : Expr} {f : FE} (h : XE' X Γ e f) (he : ∀ whole, isTrue e X.env whole = (do let v ← whole; standAt e.pos; holding [v] (truthy v)) := by intro _; rfl) : XT' X Γ e (fB f) :=
  PT.imp (pt_val h he) (fB_go (Γ := Γ))
theorem xt_cmp {op : CmpOp} {r : R2} {sem : D → D → Option D} {a b : Expr} {fa fb : FE} {pos : Pos} (ho : OpR X (compareOp op) r) (hr : ∀ v w H Q, rSem2 Γ.K sem v w H Q → r v w H Q) (ha : XE' X Γ a fa) (hb : XE' X Γ b fb) (hm : behindInMarks op b = false) : XT' X Γ (.Compare a [op] [b] pos) (fB (fOp2 sem fa fb)) :=
  PT.imp (pt_cmpR ho ha hb hm) fun σ H Q h => op2_go hr σ H _ (fB_go σ H Q h)
def ftNot (f : FT) : FT := fun ρ => (f ρ).bind fun b ρ1 => .ok (!b) ρ1
def ftAnd (f g : FT) : FT := fun ρ => (f ρ).bind fun b ρ1 => if b then g ρ1 else .ok false ρ1
def ftOr (f g : FT) : FT := fun ρ => (f ρ).bind fun b ρ1 => if b then .ok true ρ1 else g ρ1
abbrev XW' (X : Cx) (Γ : Ct) (e : Expr) (f : FT) : Prop := PW X e (tT Γ f)
theorem tT_bind {f : FT} {k : Bool → Rho → Out Bool} {σ : L2.St} {H : Hp} {Q : Bool → Hp → Prop} {Q1 : Bool → Hp → Prop} (h : tT Γ (fun ρ => (f ρ).bind k) σ H Q)
    (hk : ∀ b A S H1 ρ1 F1, EnvR Γ.K A σ H1 ρ1 F1 → Stp H S H1 (fsS F1) → Go Γ A ResB σ H S (k b ρ1) Q → Q1 b H1) : tT Γ f σ H Q1 := by
  obtain ⟨ρ, A, F, e, h⟩ := h
  refine ⟨ρ, A, F, e, Go.bind h Stp.refl fun r ρ1 v H1 F1 g1 _ e1 st1 q1 h1 => ?_⟩
  obtain ⟨rfl, rfl⟩ := q1
  exact hk r A (fsS F) H1 ρ1 F1 e1 (st1.sub fun b q => .inl q) h1
theorem Go.shift {α β : Type} {A : Nat → Addr} {rel : L2.St → Hp → Fp → α → β → List Addr → Prop} {σ : L2.St} {H H1 : Hp} {S S1 : Addr → Prop} {o : Out α} {Q : β → Hp → Prop} (h : Go Γ A rel σ H S o Q) (st : Stp H S H1 S1) : Go Γ A rel σ H1 S1 o Q := by
  cases o with
  | ok r ρ2 => exact fun v H2 F2 g e s q => h v H2 F2 g e (st.trans s) q
  | err c fs ρ2 => exact fun C od H' F' hm e s x => h C od H' F' hm e (st.trans s) x
  | no => exact h
theorem xt_not {e : Expr} {f : FT} {pos : Pos} (h : XT' X Γ e f) : XT' X Γ (.UnaryOp .Not e pos) (ftNot f) :=
  PT.imp (pt_not h) fun σ H Q h => tT_bind h fun b A S H1 ρ1 F1 e1 st h1 => Go.ok (g := []) h1 e1 (st.sub plus_nil) ⟨rfl, rfl⟩
theorem xw_and1 {e : Expr} {f : FT} {pos : Pos} (h : XT' X Γ e f) : XW' X Γ (.BoolOp .And [e] pos) f := pw_and1 h
theorem xw_or1 {e : Expr} {f : FT} {pos : Pos} (h : XT' X Γ e f) : XW' X Γ (.BoolOp .Or [e] pos) f := pw_or1 h
theorem xw_and {a b : Expr} {rest : List Expr} {f g : FT} {pos : Pos} (ha : XT' X Γ a f) (hb : XW' X Γ (.BoolOp .And (b :: rest) pos) g) : XW' X Γ (.BoolOp .And (a :: b :: rest) pos) (ftAnd f g) := by
  refine PW.imp (pw_and ha hb) fun σ H Q h => tT_bind h fun b A S H1 ρ1 F1 e1 st h1 => ?_
  cases b with
  | true => exact ⟨ρ1, A, F1, e1, h1.shift st⟩
  | false => exact Go.ok (g := []) h1 e1 (st.sub plus_nil) ⟨rfl, rfl⟩
theorem xw_or {a b : Expr} {rest : List Expr} {f g : FT} {pos : Pos} (ha : XT' X Γ a f) (hb : XW' X Γ (.BoolOp .Or (b :: rest) pos) g) : XW' X Γ (.BoolOp .Or (a :: b :: rest) pos) (ftOr f g) := by
  refine PW.imp (pw_or ha hb) fun σ H Q h => tT_bind h fun b A S H1 ρ1 F1 e1 st h1 => ?_
  cases b with
  | false => exact ⟨ρ1, A, F1, e1, h1.shift st⟩
  | true => exact Go.ok (g := []) h1 e1 (st.sub plus_nil) ⟨rfl, rfl⟩
theorem xt_w {e : Expr} {f : FT} (h : XW' X Γ e f) : XT' X Γ e f := PW.pt h
/-! ### and, or, not as values (True, False) -/
def fAnd (f g : FE) : FE := fun ρ => (fB f ρ).bind fun b ρ1 => if b then g ρ1 else .ok (.val (.bl false)) ρ1
def fOr (f g : FE) : FE := fun ρ => (fB f ρ).bind fun b ρ1 => if b then .ok (.val (.bl true)) ρ1 else g ρ1
def fNot (f : FE) : FE := fun ρ => (fB f ρ).bind fun b ρ1 => .ok (.val (.bl (!b))) ρ1
theorem fB_bind {f : FE} {k : Bool → Rho → Out R} {σ : L2.St} {H : Hp} {Q Q1 : VK} (h : tE Γ (fun ρ => (fB f ρ).bind k) σ H Q)
    (hk : ∀ b A S H1 ρ1 F1, EnvR Γ.K A σ H1 ρ1 F1 → Stp H S H1 (fsS F1) → Go Γ A (ResR Γ.K) σ H S (k b ρ1) Q → Q1 (.bl b) H1) : tE Γ f σ H Q1 := by
  obtain ⟨ρ, A, F, e, h⟩ := h
  have h : Go Γ A (ResR Γ.K) σ H (fsS F) ((f ρ).bind fun r ρ1 => (tstB r ρ1).bind k) Q := by
    have h : Go Γ A (ResR Γ.K) σ H (fsS F) (((f ρ).bind tstB).bind k) Q := h
    cases ho : f ρ with
    | ok r ρ1 => rw [ho] at h; exact h
    | err c fs ρ1 => rw [ho] at h; exact h
    | no => rw [ho] at h; exact h
  refine ⟨ρ, A, F, e, Go.bind h Stp.refl fun r ρ1 v H1 F1 g1 _ e1 st1 q1 h1 => ?_⟩
  unfold tstB at h1
  split at h1
  · rename_i b hb
    obtain ⟨g, w⟩ := q1.read e1 hb
    rw [w.bl]
    exact hk b A (fsS F) H1 ρ1 F1 e1 (st1.sub fun b q => .inl q) h1
  · exact False.elim h1
theorem Go.done {A : Nat → Addr} {σ : L2.St} {H H1 : Hp} {S : Addr → Prop} {ρ1 : Rho} {F1 : Fp} {d : D} {v : V} {Q : VK} (h : Go Γ A (ResR Γ.K) σ H S (.ok (.val d) ρ1) Q) (e1 : EnvR Γ.K A σ H1 ρ1 F1) (st : Stp H S H1 (fsS F1)) (w : Fz Γ.K H1 v d) : Q v H1 :=
  Go.ok (g := []) h e1 (st.sub plus_nil) ⟨.fz w, List.nodup_nil, fun a ha => nomatch ha⟩
theorem x_and1 {op : BoolOp} {e : Expr} {f : FE} {pos : Pos} (h : XE' X Γ e f) : XE' X Γ (.BoolOp op [e] pos) f := pe_one h
theorem x_and {a b : Expr} {rest : List Expr} {f g : FE} {pos : Pos} (ha : XE' X Γ a f) (hb : XE' X Γ (.BoolOp .And (b :: rest) pos) g) : XE' X Γ (.BoolOp .And (a :: b :: rest) pos) (fAnd f g) := by
  refine PE.imp (pe_and ha hb) fun σ H Q h => fB_bind h fun b A S H1 ρ1 F1 e1 st h1 => ⟨b, rfl, ?_⟩
  cases b with
  | true => exact ⟨ρ1, A, F1, e1, h1.shift st⟩
  | false => exact Go.done h1 e1 st (.bl false)
theorem x_or {a b : Expr} {rest : List Expr} {f g : FE} {pos : Pos} (ha : XE' X Γ a f) (hb : XE' X Γ (.BoolOp .Or (b :: rest) pos) g) : XE' X Γ (.BoolOp .Or (a :: b :: rest) pos) (fOr f g) := by
  refine PE.imp (pe_or ha hb) fun σ H Q h => fB_bind h fun b A S H1 ρ1 F1 e1 st h1 => ⟨b, rfl, ?_⟩
  cases b with
  | false => exact ⟨ρ1, A, F1, e1, h1.shift st⟩
  | true => exact Go.done h1 e1 st (.bl true)
theorem x_not {e : Expr} {f : FE} {pos : Pos} (h : XE' X Γ e f) : XE' X Γ (.UnaryOp .Not e pos) (fNot f) :=
  PE.imp (pe_not h) fun σ H Q h => fB_bind h fun b A S H1 ρ1 F1 e1 st h1 => ⟨b, rfl, Go.done h1 e1 st (.bl (!b))⟩
def fIf (t : FT) (f g : FE) : FE := fun ρ => (t ρ).bind fun b ρ1 => if b then f ρ1 else g ρ1
theorem x_if {c a b : Expr} {t : FT} {f g : FE} {pos : Pos} (hc : XT' X Γ c t) (ha : XE' X Γ a f) (hb : XE' X Γ b g) : XE' X Γ (.IfExp c a b pos) (fIf t f g) := by
  refine PE.imp (pe_ifExp hc ha hb) fun σ H Q ⟨ρ, A, F, e, h⟩ => ?_
  refine ⟨ρ, A, F, e, Go.bind h Stp.refl fun r ρ1 v H1 F1 g1 _ e1 st1 q1 h1 => ?_⟩
  obtain ⟨rfl, rfl⟩ := q1
  have st := st1.sub (S2 := fsS F1) fun b q => .inl q
  cases r with
  | true => rw [if_pos rfl] at h1 ⊢; exact ⟨ρ1, A, F1, e1, h1.shift st⟩
  | false => rw [if_neg Bool.false_ne_true] at h1 ⊢; exact ⟨ρ1, A, F1, e1, h1.shift st⟩
end
end EE

/-! layer E, part D: statements, targets, loops -/
namespace EE
open PySem PySem.Spec
open PyProof.Rows hiding St
open L2

inductive Fl where
  | nx | bk | ct | rt (d : D)
abbrev FS := Rho → Out Fl
def GoS (Γ : Ct) (A : Nat → Addr) (H : Hp) (S : Addr → Prop) (o : Out Fl) (E : Ends) : Prop :=
  match o with
  | .ok .nx ρ' => ∀ σ' H' F', EnvR Γ.K A σ' H' ρ' F' → Stp H S H' (fsS F') → E.nx σ' H'
  | .ok .bk ρ' => ∀ σ' H' F', EnvR Γ.K A σ' H' ρ' F' → Stp H S H' (fsS F') → E.bk σ' H'
  | .ok .ct ρ' => ∀ σ' H' F', EnvR Γ.K A σ' H' ρ' F' → Stp H S H' (fsS F') → E.ct σ' H'
  | .ok (.rt d) ρ' => ∀ v σ' H' F' g, EnvR Γ.K A σ' H' ρ' F' → Stp H S H' (plus (fsS F') g) → Ow Γ.K H' v d g → g.Nodup → (∀ a ∈ g, ¬ fsS F' a) → E.rt v H'
  | .err c fs ρ' => ∀ C od σ' H' F', Γ.mg c = some (.ref C) → EnvR Γ.K A σ' H' ρ' F' → Stp H S H' (fsS F') → XR Γ.K H' od fs → Γ.W (.ref C) od σ' H'
  | .no => False
def tS (Γ : Ct) (f : FS) : TS := fun E σ H => ∃ ρ A F, EnvR Γ.K A σ H ρ F ∧ GoS Γ A H (fsS F) (f ρ) E
abbrev XS' (X : Cx) (Γ : Ct) (s : Stmt) (f : FS) : Prop := PS X s (tS Γ f)
abbrev XSs' (X : Cx) (Γ : Ct) (s : List Stmt) (f : FS) : Prop := PSs X s (tS Γ f)
theorem GoS.shift {Γ : Ct} {A : Nat → Addr} {H H1 : Hp} {S S1 : Addr → Prop} {o : Out Fl} {E : Ends} (h : GoS Γ A H S o E) (st : Stp H S H1 S1) : GoS Γ A H1 S1 o E := by
  cases o with
  | ok r ρ2 =>
    cases r with
    | nx => exact fun σ' H' F' e s => h σ' H' F' e (st.trans s)
    | bk => exact fun σ' H' F' e s => h σ' H' F' e (st.trans s)
    | ct => exact fun σ' H' F' e s => h σ' H' F' e (st.trans s)
    | rt d => exact fun v σ' H' F' g e s => h v σ' H' F' g e (st.trans s)
  | err c fs ρ2 => exact fun C od σ' H' F' hm e s x => h C od σ' H' F' hm e (st.trans s) x
  | no => exact h
/-- an expression's outcome within a statement -/
theorem Go.bindS {Γ : Ct} {A : Nat → Addr} {σ : L2.St} {H H1 : Hp} {S S1 : Addr → Prop} {α β : Type} {rel1 : L2.St → Hp → Fp → α → β → List Addr → Prop} {o : Out α} {k : α → Rho → Out Fl} {E : Ends} {Q1 : β → Hp → Prop}
    (h : GoS Γ A H S (o.bind k) E) (st : Stp H S H1 S1)
    (hk : ∀ r ρ2 v H2 F2 g, o = .ok r ρ2 → EnvR Γ.K A σ H2 ρ2 F2 → Stp H1 S1 H2 (plus (fsS F2) g) → rel1 σ H2 F2 r v g → GoS Γ A H S (k r ρ2) E → Q1 v H2) : Go Γ A rel1 σ H1 S1 o Q1 := by
  cases o with
  | ok r ρ2 => exact fun v H2 F2 g e s q => hk r ρ2 v H2 F2 g rfl e s q h
  | err c fs ρ2 => exact fun C od H' F' hm e s x => h C od σ H' F' hm e (st.trans s) x
  | no => exact h

section
variable {X : Cx} {Γ : Ct}
/-! ### blocks -/
def sq (o : Out Fl) (g : FS) : Out Fl := match o with
  | .ok .nx ρ1 => g ρ1
  | o => o
@[simp] theorem sq_nx (ρ : Rho) (g : FS) : sq (.ok .nx ρ) g = g ρ := rfl
@[simp] theorem sq_rt (d : D) (ρ : Rho) (g : FS) : sq (.ok (.rt d) ρ) g = .ok (.rt d) ρ := rfl
@[simp] theorem sq_bk (ρ : Rho) (g : FS) : sq (.ok .bk ρ) g = .ok .bk ρ := rfl
@[simp] theorem sq_ct (ρ : Rho) (g : FS) : sq (.ok .ct ρ) g = .ok .ct ρ := rfl
@[simp] theorem sq_err (c : Str) (fs : List (Str × D)) (ρ : Rho) (g : FS) : sq (.err c fs ρ) g = .err c fs ρ := rfl
@[simp] theorem sq_no (g : FS) : sq .no g = .no := rfl
def fNx : FS := fun ρ => .ok .nx ρ
def fSeq (f g : FS) : FS := fun ρ => sq (f ρ) g
theorem xs_nil : XSs' X Γ [] fNx := PSs.imp pss_nil fun D σ H ⟨ρ, A, F, e, h⟩ => h σ H F e Stp.refl
theorem xs_cons {s : Stmt} {r : List Stmt} {f g : FS} (h1 : XS' X Γ s f) (h2 : XSs' X Γ r g) : XSs' X Γ (s :: r) (fSeq f g) := by
  refine PSs.imp (pss_cons h1 h2) fun D σ H ⟨ρ, A, F, e, h⟩ => ⟨ρ, A, F, e, ?_⟩
  unfold fSeq at h
  cases ho : f ρ with
  | no => rw [ho] at h; exact h
  | err c fs ρ1 => rw [ho] at h; exact h
  | ok r ρ1 =>
    rw [ho] at h
    cases r with
    | nx => exact fun σ1 H1 F1 e1 st1 => ⟨ρ1, A, F1, e1, GoS.shift h st1⟩
    | bk => exact h
    | ct => exact h
    | rt d => exact h
theorem xs_one {s : Stmt} {f : FS} (h1 : XS' X Γ s f) : XSs' X Γ [s] f := pss_one h1
def fBk : FS := fun ρ => .ok .bk ρ
def fCt : FS := fun ρ => .ok .ct ρ
theorem s_pass {pos : Pos} : XS' X Γ (.Pass pos) fNx := PS.imp ps_pass fun D σ H ⟨ρ, A, F, e, h⟩ => h σ H F e Stp.refl
theorem s_break {pos : Pos} : XS' X Γ (.Break pos) fBk := PS.imp ps_break fun D σ H ⟨ρ, A, F, e, h⟩ => h σ H F e Stp.refl
theorem s_continue {pos : Pos} : XS' X Γ (.Continue pos) fCt := PS.imp ps_continue fun D σ H ⟨ρ, A, F, e, h⟩ => h σ H F e Stp.refl
def fDrop (f : FE) : FS := fun ρ => (f ρ).bind fun _ ρ1 => .ok .nx ρ1
theorem s_expr {e : Expr} {f : FE} {pos : Pos} (h : XE' X Γ e f) (hs : swapsWith e none pos.line X.env = pure false := by rfl) : XS' X Γ (.Expr e pos) (fDrop f) := by
  refine PS.imp (ps_expr h hs) fun D σ H ⟨ρ, A, F, e, h⟩ => ?_
  exact ⟨ρ, A, F, e, Go.bindS h Stp.refl fun r ρ1 v H1 F1 g1 _ e1 st1 q1 h1 => h1 σ H1 F1 e1 (st1.sub fun b q => .inl q)⟩
def rtn (r : R) (ρ : Rho) : Out Fl := match r with
  | .val d => .ok (.rt d) ρ
  | .bor _ => .no
def fRet (f : FE) : FS := fun ρ => (f ρ).bind rtn
theorem s_ret {e : Expr} {f : FE} {pos : Pos} (h : XE' X Γ e f) : XS' X Γ (.Return (some e) pos) (fRet f) := by
  refine PS.imp (ps_ret h) fun D σ H ⟨ρ, A, F, e, h⟩ => ?_
  refine ⟨ρ, A, F, e, Go.bindS h Stp.refl fun r ρ1 v H1 F1 g1 _ e1 st1 q1 h1 => ?_⟩
  cases r with
  | val d => exact h1 v σ H1 F1 g1 e1 st1 q1.1 q1.2.1 q1.2.2
  | bor i => exact False.elim h1
def fRetN : FS := fun ρ => .ok (.rt .non) ρ
theorem s_retN {pos : Pos} : XS' X Γ (.Return none pos) fRetN :=
  PS.imp ps_retN fun D σ H ⟨ρ, A, F, e, h⟩ => h .non σ H F [] e (Stp.refl.sub plus_nil) (.fz .non) List.nodup_nil fun a ha => nomatch ha
/-- a slot's thing is handed on -/
def mv (r : R) (ρ : Rho) : Out R := match r with
  | .val d => .ok (.val d) ρ
  | .bor i => match ρ[i]? with
    | some (.dt d) => .ok (.val d) (ρ.set i .un)
    | some (.io d) => if d.isF then .ok (.val d) ρ else .no
    | _ => .no
def fMv (f : FE) : FE := fun ρ => (f ρ).bind mv
theorem EnvR.gone {K : PySem.W.Frag} {A : Nat → Addr} {σ : L2.St} {H : Hp} {ρ : Rho} {F : Fp} {i : Nat} (e : EnvR K A σ H ρ F) : EnvR K A σ H (ρ.set i .un) (F.put i []) := by
  refine ⟨fun j s x h3 h4 => ?_, fun j x h3 => ?_, fun j a ha => ?_, fun j => ?_, fun j k a h3 h4 => ?_, by rw [List.length_set]; exact e.len⟩
  · by_cases hj : j = i
    · subst hj
      rw [List.getElem?_set] at h3
      simp only [if_true] at h3
      split at h3
      · cases h3; cases h4
      · cases h3
    · rw [List.getElem?_set_ne (Ne.symm hj)] at h3
      rw [Fp.put_ne hj]
      exact e.rep j s x h3 h4
  · by_cases hj : j = i
    · subst hj
      rw [List.getElem?_set] at h3
      simp only [if_true] at h3
      split at h3 <;> cases h3
    · rw [List.getElem?_set_ne (Ne.symm hj)] at h3
      exact e.io j x h3
  · by_cases hj : j = i
    · subst hj; rw [Fp.put_same] at ha; cases ha
    · rw [Fp.put_ne hj] at ha
      rw [List.getElem?_set_ne (Ne.symm hj)]
      exact e.emp j a ha
  · by_cases hj : j = i
    · subst hj; rw [Fp.put_same]; exact List.nodup_nil
    · rw [Fp.put_ne hj]; exact e.nd j
  · by_cases hj : j = i
    · subst hj; rw [Fp.put_same] at h3; cases h3
    · rw [Fp.put_ne hj] at h3
      by_cases hk : k = i
      · subst hk; rw [Fp.put_same] at h4; cases h4
      · rw [Fp.put_ne hk] at h4
        exact e.dj j k a h3 h4
theorem x_mv {e : Expr} {f : FE} (h : XE' X Γ e f) : XE' X Γ e (fMv f) := by
  refine PE.imp h fun σ H Q ⟨ρ, A, F, e, h⟩ => ?_
  refine ⟨ρ, A, F, e, Go.bind h Stp.refl fun r ρ1 v H1 F1 g1 _ e1 st1 q1 h1 => ?_⟩
  cases r with
  | val d => exact h1.ok e1 st1 q1
  | bor i =>
    obtain ⟨hv, rfl⟩ := q1
    unfold mv at h1
    simp only at h1
    split at h1
    · rename_i d hd
      obtain ⟨v', hv', w⟩ := e1.rep i _ d hd rfl
      rw [hv] at hv'; cases hv'
      refine Go.ok (g := F1 i) h1 (e1.gone (i := i)) (st1.sub fun b q => ?_) ⟨w, e1.nd i, fun a ha z => ?_⟩
      · rcases q with q | q
        · exact (Fp.put_sub q).imp id fun z => nomatch z
        · exact .inl ⟨i, q⟩
      · obtain ⟨j, z⟩ := z
        by_cases hj : j = i
        · subst hj; rw [Fp.put_same] at z; cases z
        · rw [Fp.put_ne hj] at z
          exact hj (e1.dj j i a z ha)
    · rename_i d hd
      obtain ⟨v', hv', w⟩ := e1.rep i _ d hd rfl
      rw [hv] at hv'; cases hv'
      split at h1
      · rename_i hf
        exact Go.ok (g := []) h1 e1 st1 ⟨.fz (w.isF hf).1, List.nodup_nil, fun a ha => nomatch ha⟩
      · exact False.elim h1
    · exact False.elim h1
def fIfS (t : FT) (f g : FS) : FS := fun ρ => (t ρ).bind fun b ρ1 => if b then f ρ1 else g ρ1
theorem s_if {c : Expr} {a b : List Stmt} {t : FT} {f g : FS} {pos : Pos} (hc : XT' X Γ c t) (ha : XSs' X Γ a f) (hb : XSs' X Γ b g) : XS' X Γ (.If c a b pos) (fIfS t f g) := by
  refine PS.imp (ps_if hc ha hb) fun D σ H ⟨ρ, A, F, e, h⟩ => ?_
  refine ⟨ρ, A, F, e, Go.bindS h Stp.refl fun r ρ1 v H1 F1 g1 _ e1 st1 q1 h1 => ?_⟩
  obtain ⟨rfl, rfl⟩ := q1
  have st := st1.sub (S2 := fsS F1) fun b q => .inl q
  cases r with
  | true => rw [if_pos rfl] at h1 ⊢; exact ⟨ρ1, A, F1, e1, h1.shift st⟩
  | false => rw [if_neg Bool.false_ne_true] at h1 ⊢; exact ⟨ρ1, A, F1, e1, h1.shift st⟩

/-! ### targets -/
abbrev FG := D → Rho → Out Unit
def GoG (Γ : Ct) (A : Nat → Addr) (dom : List Nat) (σ : L2.St) (H : Hp) (S : Addr → Prop) (o : Out Unit) (Q : L2.St → Hp → Prop) : Prop :=
  match o with
  | .ok _ ρ' => ∀ σ' H' F', EnvR Γ.K A σ' H' ρ' F' → Stp H S H' (fsS F') → (σ'.length = σ.length ∧ ∀ j, j ∉ dom → σ'[j]? = σ[j]?) → Q σ' H'
  | .err _ _ _ => False
  | .no => False
def tGt (Γ : Ct) (G : FG) (dom : List Nat) : TG := fun v σ H Q => ∃ ρ A F d g, EnvR Γ.K A σ H ρ F ∧ Ow Γ.K H v d g ∧ g.Nodup ∧ (∀ a ∈ g, ¬ fsS F a) ∧ GoG Γ A dom σ H (plus (fsS F) g) (G d ρ) Q
abbrev XG' (X : Cx) (Γ : Ct) (e : Expr) (G : FG) (dom : List Nat) : Prop := PG X e (tGt Γ G dom)
def gSet (i : Nat) : FG := fun d ρ => match ρ[i]? with
  | some .un => .ok () (ρ.set i (.dt d))
  | some (.dt _) => .ok () (ρ.set i (.dt d))
  | _ => .no
theorem g_name {i : Nat} {x : Str} {pos : Pos} (hN : X.N.Nodup) (hi : X.N[i]? = some x) (hx : Loc X.env.scope x) (hf : X.fn x = true ∨ X.env.scope.names.lookup x = some .local := by first | exact .inl rfl | exact .inr rfl | assumption) : XG' X Γ (.Name x pos) (gSet i) [i] := by
  refine PG.imp (pg_name hN hi hx hf) fun v σ H Q ⟨ρ, A, F, d, g, e, w, nd, dj, h⟩ => ?_
  unfold gSet at h
  have key : ∀ s, ρ[i]? = some s → GoG Γ A [i] σ H (plus (fsS F) g) (.ok () (ρ.set i (.dt d))) Q → Q (σ.set i (some v)) H := fun s hs h => by
    have hi := (List.getElem?_eq_some_iff.mp hs).1
    refine h _ H (F.put i g) (e.put (s' := .dt d) (d := d) hi (List.getElem?_set_self (by rw [← e.len]; exact hi)) (fun j hj => List.getElem?_set_ne (Ne.symm hj)) rfl w nd (fun a ha j _ z => dj a ha ⟨j, z⟩) (fun x z => nomatch z) (by simp)) ?_ ?_
    · exact Stp.refl.sub fun b q => Fp.put_sub q
    · exact ⟨by simp, fun j hj => List.getElem?_set_ne fun z => hj (by simp [z])⟩
  split at h
  · exact key _ (by assumption) h
  · exact key _ (by assumption) h
  · exact False.elim h
/-- several targets -/
def gAll : List FG → List D → Rho → Out Unit
  | [], [], ρ => .ok () ρ
  | G :: Gs, d :: ds, ρ => (G d ρ).bind fun _ ρ1 => gAll Gs ds ρ1
  | _, _, _ => .no
def tGs (Γ : Ct) (Gs : List FG) (dom : List Nat) : TGs := fun vs σ H Q => ∃ ρ A F ds fs, EnvR Γ.K A σ H ρ F ∧ vs.length = ds.length ∧ fs.length = ds.length ∧ (∀ (i : Nat) v d f, vs[i]? = some v → ds[i]? = some d → fs[i]? = some f → Ow Γ.K H v d f) ∧
  (List.flatten fs).Nodup ∧ (∀ a ∈ List.flatten fs, ¬ fsS F a) ∧ GoG Γ A dom σ H (plus (fsS F) fs.flatten) (gAll Gs ds ρ) Q
abbrev XGs' (X : Cx) (Γ : Ct) (es : List Expr) (Gs : List FG) (dom : List Nat) : Prop := PGs X es (tGs Γ Gs dom)
theorem PGs.imp {X : Cx} {e : List Expr} {t t' : TGs} (h : PGs X e t) (k : ∀ v σ H Q, t' v σ H Q → t v σ H Q) : PGs X e t' := ⟨fun pins s σ H v u Q I r q => h.run pins s σ H v u Q I r (k _ _ _ _ q)⟩
theorem gs_nil : XGs' X Γ [] [] [] := by
  refine PGs.imp pgs_nil fun vs σ H Q ⟨ρ, A, F, ds, fs, e, l1, l2, c, nd, dj, h⟩ => ?_
  cases ds with
  | nil =>
    have e1 : vs = [] := List.eq_nil_of_length_eq_zero l1
    have e2 : fs = [] := List.eq_nil_of_length_eq_zero l2
    subst e1; subst e2
    exact ⟨rfl, h σ H F e (Stp.refl.sub fun b q => .inl q) ⟨rfl, fun _ _ => rfl⟩⟩
  | cons d ds => exact False.elim h
theorem gs_cons {x : Expr} {xs : List Expr} {G : FG} {Gs : List FG} {d1 d2 : List Nat} (h1 : XG' X Γ x G d1) (h2 : XGs' X Γ xs Gs d2) (hs : (assignEach (x :: xs) X.env).map (·.2) = assign x X.env :: (assignEach xs X.env).map (·.2) := by rfl) : XGs' X Γ (x :: xs) (G :: Gs) (d1 ++ d2) := by
  refine PGs.imp (pgs_cons h1 h2 hs) fun vs σ H Q ⟨ρ, A, F, ds, fs, e, l1, l2, c, nd, dj, h⟩ => ?_
  cases ds with
  | nil => exact False.elim h
  | cons d ds =>
    cases vs with
    | nil => cases l1
    | cons v vs =>
      cases fs with
      | nil => cases l2
      | cons g fs =>
        rw [List.flatten_cons] at nd dj h
        obtain ⟨nd1, nd2, nd3⟩ := List.nodup_append.mp nd
        have w : Ow Γ.K H v d g := c 0 v d g rfl rfl rfl
        refine ⟨v, vs, rfl, ρ, A, F, d, g, e, w, nd1, fun a ha => dj a (List.mem_append_left _ ha), ?_⟩
        unfold gAll at h
        cases ho : G d ρ with
        | no => rw [ho] at h; exact h
        | err c fs ρ1 => rw [ho] at h; exact h
        | ok u ρ1 =>
          rw [ho] at h
          intro σ1 H1 F1 e1 st1 dm1
          have c' : ∀ (i : Nat) v d f, vs[i]? = some v → ds[i]? = some d → fs[i]? = some f → Ow Γ.K H1 v d f := fun i v d f i1 i2 i3 => by
            refine (c (i + 1) v d f (by simpa using i1) (by simpa using i2) (by simpa using i3)).stay fun b o eo z => st1.1 b o eo fun q => ?_
            rcases z with z | z
            · rcases q with q | q
              · exact e.notFix eo z q
              · obtain ⟨o', eo', m⟩ := w.mut b q
                rw [eo] at eo'; cases eo'
                exact z.notMut m
            · have zf := mem_flat i3 z
              rcases q with q | q
              · exact dj b (List.mem_append_right _ zf) q
              · exact nd3 b q b zf rfl
          refine ⟨ρ1, A, F1, ds, fs, e1, by simpa using l1, by simpa using l2, c', nd2, fun a ha z => ?_, ?_⟩
          · obtain ⟨f, hf, hb⟩ := List.mem_flatten.mp ha
            obtain ⟨i, hi, ei⟩ := List.getElem_of_mem hf
            simp only [List.length_cons] at l1 l2
            obtain ⟨o, eo, m⟩ := (c (i + 1) (vs[i]'(by omega)) (ds[i]'(by omega)) f (by simp) (by simp) (by simp [hi, ei])).mut a hb
            rcases st1.2 a z with q | q
            · rw [eo] at q; cases q
            · rcases q with q | q
              · exact dj a (List.mem_append_right _ ha) q
              · exact nd3 a q a ha rfl
          · have h : GoG Γ A (d1 ++ d2) σ H (plus (fsS F) (g ++ fs.flatten)) (gAll Gs ds ρ1) Q := h
            have stX : Stp H (plus (fsS F) (g ++ fs.flatten)) H1 (plus (fsS F1) fs.flatten) := by
              refine st1.frame.weak fun b q => ?_
              rcases q with (q | q) | q
              · exact .inl q
              · exact .inr (List.mem_append_left _ q)
              · exact .inr (List.mem_append_right _ q)
            cases hg : gAll Gs ds ρ1 with
            | ok u ρ2 => rw [hg] at h; exact fun σ2 H2 F2 e2 st2 dm2 => h σ2 H2 F2 e2 (stX.trans st2) ⟨dm2.1.trans dm1.1, fun j hj => (dm2.2 j fun z => hj (List.mem_append_right _ z)).trans (dm1.2 j fun z => hj (List.mem_append_left _ z))⟩
            | err c fs ρ2 => rw [hg] at h; exact h
            | no => rw [hg] at h; exact h
def gTup (Gs : List FG) : FG := fun d ρ => match d with
  | .nd .tup xs => if xs.length = Gs.length then gAll Gs xs ρ else .no
  | _ => .no
theorem g_tup {es : List Expr} {k : Nat} {Gs : List FG} {n : Nat} {dom : List Nat} {pos : Pos} (hc : X.calm = true) (hK : Γ.K = X.K) (h : XGs' X Γ es Gs dom) (hn : (assignEach es X.env).length = n := by rfl) (hst : (assignEach es X.env).findIdx? (·.1) = none := by rfl) (hl : Gs.length = n := by rfl) :
    XG' X Γ (.Tuple es k pos) (gTup Gs) dom := by
  refine PG.imp (pg_tup hc h hn hst) fun v σ H Q ⟨ρ, A, F, d, g, e, w, nd, dj, h⟩ => ?_
  unfold gTup at h
  split at h
  · rename_i xs
    split at h
    · rename_i hxs
      cases w with
      | fz w =>
        cases w with
        | @nd a _ vs _ h1 h2 h3 =>
          refine ⟨a, vs, rfl, by rw [← hK]; exact h1, by rw [h2, hxs, hl], ρ, A, F, xs, List.replicate xs.length [], e, h2, by simp, fun i v d f e1 e2 e3 => ?_, ?_, ?_, ?_⟩
          · have : f = [] := List.eq_of_mem_replicate (List.mem_of_getElem? e3)
            subst this
            exact .fz (h3 i v d e1 e2)
          · rw [List.flatten_replicate_nil]; exact List.nodup_nil
          · rw [List.flatten_replicate_nil]; exact fun a ha => nomatch ha
          · rw [List.flatten_replicate_nil]; exact h
      | @nd a _ vs _ fs h1 h2 h3 h4 => exact False.elim h1
      | @tup a vs _ fs h1 h2 h3 h4 =>
        exact ⟨a, vs, rfl, by rw [← hK]; exact h1, by rw [h2, hxs, hl], ρ, A, F, xs, fs, e, h2, h3, h4, nd, dj, h⟩
    · exact False.elim h
  · exact False.elim h
/-- target = value -/
def asg (G : FG) (r : R) (ρ : Rho) : Out Fl := match r with
  | .val d => (match G d ρ with
    | .ok _ ρ1 => .ok .nx ρ1
    | _ => .no)
  | .bor _ => .no
def fAsg (f : FE) (G : FG) : FS := fun ρ => (f ρ).bind (asg G)
theorem GoG.of {dom : List Nat} {σ : L2.St} {A : Nat → Addr} {H H1 : Hp} {S S1 : Addr → Prop} {G : FG} {d : D} {ρ1 : Rho} {E : Ends} (h : GoS Γ A H S (asg G (.val d) ρ1) E) (st : Stp H S H1 S1) : GoG Γ A dom σ H1 S1 (G d ρ1) E.nx := by
  unfold asg at h
  simp only at h
  cases ho : G d ρ1 with
  | ok u ρ2 => rw [ho] at h; exact fun σ2 H2 F2 e2 st2 _ => h σ2 H2 F2 e2 (st.trans st2)
  | err c fs ρ2 => rw [ho] at h; exact h
  | no => rw [ho] at h; exact h
theorem asg_go {dom : List Nat} {f : FE} {G : FG} (D : Ends) (σ : L2.St) (H : Hp) (h : tS Γ (fAsg f G) D σ H) : tAsg (tE Γ f) (tGt Γ G dom) D σ H := by
  obtain ⟨ρ, A, F, e, h⟩ := h
  refine ⟨ρ, A, F, e, Go.bindS h Stp.refl fun r ρ1 v H1 F1 g1 _ e1 st1 q1 h1 => ?_⟩
  cases r with
  | bor i => exact False.elim h1
  | val d => exact ⟨ρ1, A, F1, d, g1, e1, q1.1, q1.2.1, q1.2.2, GoG.of h1 st1⟩
theorem s_asg {tg e : Expr} {f : FE} {G : FG} {dom : List Nat} {pos : Pos} (he : XE' X Γ e f) (hg : XG' X Γ tg G dom) (hs : swapsWithSole [tg] e pos.line X.env = pure false := by rfl) (hw : swappedStores [tg] e X.env = pure none := by rfl)
    (h1 : (assignEach [tg] X.env).map (·.2) = [assign tg X.env] := by rfl) : XS' X Γ (.Assign [tg] e pos) (fAsg f G) := PS.imp (ps_asg he hg hs hw h1) asg_go
theorem gName_of {i : Nat} {v : V} {σ : L2.St} {H : Hp} {Q : L2.St → Hp → Prop} (h : tGt Γ (gSet i) [i] v σ H Q) : gName i v σ H Q := by
  obtain ⟨ρ, A, F, d, g, e, w, nd, dj, h⟩ := h
  unfold gSet at h
  have key : ∀ s, ρ[i]? = some s → GoG Γ A [i] σ H (plus (fsS F) g) (.ok () (ρ.set i (.dt d))) Q → Q (σ.set i (some v)) H := fun s hs h => by
    have hi := (List.getElem?_eq_some_iff.mp hs).1
    refine h _ H (F.put i g) (e.put (s' := .dt d) (d := d) hi (List.getElem?_set_self (by rw [← e.len]; exact hi)) (fun j hj => List.getElem?_set_ne (Ne.symm hj)) rfl w nd (fun a ha j _ z => dj a ha ⟨j, z⟩) (fun x z => nomatch z) (by simp)) ?_ ?_
    · exact Stp.refl.sub fun b q => Fp.put_sub q
    · exact ⟨by simp, fun j hj => List.getElem?_set_ne fun z => hj (by simp [z])⟩
  split at h
  · exact key _ (by assumption) h
  · exact key _ (by assumption) h
  · exact False.elim h
theorem s_set {i : Nat} {x : Str} {e : Expr} {f : FE} {pos' pos : Pos} (hN : X.N.Nodup) (hi : X.N[i]? = some x) (hx : Loc X.env.scope x) (he : XE' X Γ e f) (hs : swapsWith e (some (.Name x pos')) pos.line X.env = pure false := by rfl) (hf : X.fn x = true ∨ X.env.scope.names.lookup x = some .local := by first | exact .inl rfl | exact .inr rfl | assumption) :
    XS' X Γ (.Assign [.Name x pos'] e pos) (fAsg f (gSet i)) := by
  refine PS.imp (ps_set hN hi hx he hs hf) fun D σ H h => ?_
  obtain ⟨ρ, A, F, e, h⟩ := h
  refine ⟨ρ, A, F, e, Go.bindS h Stp.refl fun r ρ1 v H1 F1 g1 _ e1 st1 q1 h1 => ?_⟩
  cases r with
  | bor i => exact False.elim h1
  | val d => exact gName_of (Γ := Γ) ⟨ρ1, A, F1, d, g1, e1, q1.1, q1.2.1, q1.2.2, GoG.of h1 st1⟩
/-- a, b = x, y of plain locals: stored from the right -/
def par (i j : Nat) (rs : List R) (ρ : Rho) : Out Fl := match valsOf rs with
  | some [d, e] => (match gSet j e ρ with
    | .ok _ ρ1 => (match gSet i d ρ1 with
      | .ok _ ρ2 => .ok .nx ρ2
      | _ => .no)
    | _ => .no)
  | _ => .no
def fPar (i j : Nat) (fs : FA) : FS := fun ρ => (fs ρ).bind (par i j)
theorem gSet_ok {i : Nat} {d : D} {ρ ρ1 : Rho} {u : Unit} (h : gSet i d ρ = .ok u ρ1) : i < ρ.length ∧ (∀ x, ρ[i]? ≠ some (.io x)) ∧ ρ1 = ρ.set i (.dt d) := by
  unfold gSet at h
  split at h
  · rename_i hs; cases h; exact ⟨(List.getElem?_eq_some_iff.mp hs).1, fun x z => by (rw [hs] at z; cases z), rfl⟩
  · rename_i hs; cases h; exact ⟨(List.getElem?_eq_some_iff.mp hs).1, fun x z => by (rw [hs] at z; cases z), rfl⟩
  · cases h
theorem s_par {i j : Nat} {x y : Str} {a b : Expr} {fs : FA} {px py pt pos : Pos} {kt k2 pt2} (hc : X.calm = true) (hN : X.N.Nodup) (hi : X.N[i]? = some x) (hj : X.N[j]? = some y) (hij : i ≠ j)
    (hx : X.env.scope.names.lookup x = some .local) (hy : X.env.scope.names.lookup y = some .local) (ha : XA' X Γ [a, b] fs)
    (hw : swappedStores [.Tuple [.Name x px, .Name y py] kt pt] (.Tuple [a, b] k2 pt2) X.env = pure (some [x, y]))
    (hs : swapsWithSole [.Tuple [.Name x px, .Name y py] kt pt] (.Tuple [a, b] k2 pt2) pos.line X.env = pure false := by rfl) :
    XS' X Γ (.Assign [.Tuple [.Name x px, .Name y py] kt pt] (.Tuple [a, b] k2 pt2) pos) (fPar i j fs) := by
  refine PS.imp (ps_par hc hN hi hj hij hx hy ha hw hs) fun D σ H ⟨ρ, A, F, e, h⟩ => ?_
  refine ⟨ρ, A, F, e, Go.bindS h Stp.refl fun rs ρ1 vs H1 F1 g1 _ e1 st1 q1 h1 => ?_⟩
  unfold par at h1
  split at h1
  · rename_i d d' hds
    split at h1
    · rename_i u ρ2 hg1
      split at h1
      · rename_i u' ρ3 hg2
        obtain ⟨fs, rfl, l1, l2, nd, dj, c⟩ := q1.vals hds
        match vs, fs, l1, l2 with
        | [v, w], [g, g'], _, _ =>
          refine ⟨v, w, rfl, ?_⟩
          obtain ⟨lj, _, rfl⟩ := gSet_ok hg1
          obtain ⟨li, _, rfl⟩ := gSet_ok hg2
          simp only [List.flatten_cons, List.flatten_nil, List.append_nil] at nd dj st1
          obtain ⟨n1, n2, n3⟩ := List.nodup_append.mp nd
          have w1 : Ow Γ.K H1 v d g := c 0 _ _ _ rfl rfl rfl
          have w2 : Ow Γ.K H1 w d' g' := c 1 _ _ _ rfl rfl rfl
          have e2 := e1.put (σ' := σ.set j (some w)) (s' := .dt d') (d := d') lj (List.getElem?_set_self (by rw [← e1.len]; exact lj)) (fun k hk => List.getElem?_set_ne (Ne.symm hk)) rfl w2 n2 (fun a ha k _ z => dj a (List.mem_append_right _ ha) ⟨k, z⟩) (fun x z => nomatch z) (by simp)
          have e3 := e2.put (σ' := (σ.set j (some w)).set i (some v)) (s' := .dt d) (d := d) li (List.getElem?_set_self (by rw [← e2.len]; exact li)) (fun k hk => List.getElem?_set_ne (Ne.symm hk)) rfl w1 n1 (fun a ha k _ z => by
            rcases Fp.put_sub ⟨k, z⟩ with z | z
            · exact dj a (List.mem_append_left _ ha) z
            · exact n3 a ha a z rfl) (fun x z => nomatch z) (by simp)
          rw [List.set_comm _ _ (Ne.symm hij)] at e3
          refine h1 _ H1 _ e3 (st1.sub fun b q => ?_)
          rcases Fp.put_sub q with q | q
          · rcases Fp.put_sub q with q | q
            · exact .inl q
            · exact .inr (List.mem_append_right _ q)
          · exact .inr (List.mem_append_left _ q)
      · exact False.elim h1
    · exact False.elim h1
  · exact False.elim h1
/-- name op= e -/
def fAug (op : D → D → Option D) (i : Nat) (f : FE) : FS := fun ρ => match slot ρ i with
  | some x => (f ρ).bind fun r ρ1 => (match rd ρ1 r with
    | some y => (match op x y with
      | some z => asg (gSet i) (.val z) ρ1
      | none => .no)
    | none => .no)
  | none => .no
theorem s_aug {i : Nat} {x : Str} {e : Expr} {f : FE} {op : Operator} {ti : TIp} {sem : D → D → Option D} {pos' pos : Pos} (hN : X.N.Nodup) (hi : X.N[i]? = some x) (hx : Loc X.env.scope x) (he : XE' X Γ e f) (ho : PIp X op ti)
    (hr : ∀ v w H Q, (∃ a b z g2, Fz Γ.K H v a ∧ Ow Γ.K H w b g2 ∧ sem a b = some z ∧ PR Γ.K H z Q) → ti v w H Q) (hF : ∀ a b z, sem a b = some z → a.isF = true) (hf : X.fn x = true ∨ X.env.scope.names.lookup x = some .local := by first | exact .inl rfl | exact .inr rfl | assumption) :
    XS' X Γ (.AugAssign (.Name x pos') op e pos) (fAug sem i f) := by
  refine PS.imp (ps_aug hN hi hx he ho hf) fun D σ H ⟨ρ, A, F, e, h⟩ => ?_
  unfold fAug at h
  split at h
  · rename_i a ha
    obtain ⟨s, hs, hd, hl⟩ := slot_at ha
    obtain ⟨v, hv, w⟩ := e.rep i s a hs hd
    refine ⟨v, hv, ρ, A, F, e, Go.bindS h Stp.refl fun r ρ1 u H1 F1 g1 _ e1 st1 q1 h1 => ?_⟩
    split at h1
    · rename_i b hb
      split at h1
      · rename_i z hz
        have wz := (w.isF (hF a b z hz)).1.stay (st1.fix e)
        obtain ⟨gb, wb⟩ := q1.read e1 hb
        refine hr v u H1 _ ⟨a, b, z, gb, wz, wb, hz, fun v' H' g k w nd nw => ?_⟩
        refine gName_of (Γ := Γ) ⟨ρ1, A, F1, z, g, e1.stay fun b o q _ => k b o q, w, nd, fun a ha q => ?_, GoG.of h1 (((st1.sub fun b q => .inl q).new nw).trans (Stp.same k))⟩
        obtain ⟨o, eo, _⟩ := e1.mut q
        rw [nw a ha] at eo; cases eo
      · exact False.elim h1
    · exact False.elim h1
  · exact False.elim h

/-! ### for -/
abbrev FI := Rho → Out (List D)
def ItOk (K : PySem.W.Frag) (J : It) (H1 : Hp) (items : List D) : Prop :=
  ∀ (i : Nat) (H : Hp), (∀ b o, H1 b = some o → Fix o → H b = some o) →
    (∀ d, items[i]? = some d → J.go i H ∧ ∀ x H', J.yld i H x H' → (∀ b o, H b = some o → H' b = some o) ∧ Fz K H' x d) ∧ (items.length ≤ i → J.stop i H)
def ResI (K : PySem.W.Frag) : L2.St → Hp → Fp → List D → It → List Addr → Prop := fun _ H _ items J g => ItOk K J H items ∧ g = []
def tI (Γ : Ct) (f : FI) : TI := fun σ H R => ∃ ρ A F, EnvR Γ.K A σ H ρ F ∧ Go Γ A (ResI Γ.K) σ H (fsS F) (f ρ) R
abbrev XI' (X : Cx) (Γ : Ct) (tg iter : Expr) (f : FI) : Prop := PI X tg iter (tI Γ f)
def forL (G : FG) (B : FS) : List D → Rho → Out Fl
  | [], ρ => .ok .nx ρ
  | d :: ds, ρ => match G d ρ with
    | .ok _ ρ1 => (match B ρ1 with
      | .ok .nx ρ2 => forL G B ds ρ2
      | .ok .ct ρ2 => forL G B ds ρ2
      | .ok .bk ρ2 => .ok .nx ρ2
      | .ok (.rt d) ρ2 => .ok (.rt d) ρ2
      | .err c fs ρ2 => .err c fs ρ2
      | .no => .no)
    | _ => .no
def fFor (fi : FI) (G : FG) (B : FS) : FS := fun ρ => (fi ρ).bind (forL G B)
theorem s_for {tg iter : Expr} {body : List Stmt} {fi : FI} {G : FG} {B : FS} {dom : List Nat} {pos : Pos} (hp : PassesOwn (model X.prog X.w) X.A X.env X.xe) (hc : X.calm = true) (hi : XI' X Γ tg iter fi) (hg : XG' X Γ tg G dom) (hb : XSs' X Γ body B)
    (hs : ∀ x, foldedSetIterable iter X.env x = pure x := by intro _; rfl) : XS' X Γ (.For tg iter body [] pos) (fFor fi G B) := by
  refine PS.imp (ps_for hp hc hi hg hb hs) fun D σ H ⟨ρ, A, F, e, h⟩ => ?_
  refine ⟨ρ, A, F, e, Go.bindS h Stp.refl fun items ρ1 J H1 F1 g1 _ e1 st1 q1 h1 => ?_⟩
  obtain ⟨ok, rfl⟩ := q1
  have st1 : Stp H (fsS F) H1 (fsS F1) := st1.sub fun b q => .inl q
  refine ⟨fun i m σ' H' => i ≤ items.length ∧ m = items.length - i ∧ (∀ b o, H1 b = some o → Fix o → H' b = some o) ∧ ∃ ρ' F', EnvR Γ.K A σ' H' ρ' F' ∧ GoS Γ A H' (fsS F') (forL G B (items.drop i) ρ') D,
    ⟨items.length, Nat.zero_le _, rfl, fun _ _ q _ => q, ρ1, F1, e1, h1.shift st1⟩, ?_⟩
  rintro i m σ2 H2 ⟨hi, rfl, kf, ρ2, F2, e2, h2⟩
  obtain ⟨ok1, ok2⟩ := ok i H2 kf
  by_cases hlt : i < items.length
  · refine .inr ⟨(ok1 items[i] (List.getElem?_eq_getElem hlt)).1, fun σ' H' => i + 1 ≤ items.length ∧ (∀ b o, H1 b = some o → Fix o → H' b = some o) ∧ ∃ ρ' F', EnvR Γ.K A σ' H' ρ' F' ∧ GoS Γ A H' (fsS F') (forL G B (items.drop (i + 1)) ρ') D,
      fun σ' H' ⟨a, b, c⟩ => ⟨_, by omega, a, rfl, b, c⟩, fun x H3 y => ?_⟩
    obtain ⟨k3, w3⟩ := (ok1 items[i] (List.getElem?_eq_getElem hlt)).2 x H3 y
    have e3 := e2.stay fun b o q _ => k3 b o q
    rw [List.drop_eq_getElem_cons hlt] at h2
    unfold forL at h2
    refine ⟨ρ2, A, F2, items[i], [], e3, .fz w3, List.nodup_nil, (fun a ha => nomatch ha), ?_⟩
    have s3 : Stp H2 (fsS F2) H3 (plus (fsS F2) []) := (Stp.same k3).sub plus_nil
    cases hG : G items[i] ρ2 with
    | no => rw [hG] at h2; exact h2
    | err c fs ρ4 => rw [hG] at h2; exact h2
    | ok u ρ4 =>
      rw [hG] at h2
      dsimp only at h2
      intro σ4 H4 F4 e4 st4 _
      refine ⟨ρ4, A, F4, e4, ?_⟩
      have sA := s3.trans st4
      have again : ∀ {ρ5 : Rho}, GoS Γ A H2 (fsS F2) (forL G B (items.drop (i + 1)) ρ5) D → ∀ σ' H' F', EnvR Γ.K A σ' H' ρ5 F' → Stp H4 (fsS F4) H' (fsS F') → i + 1 ≤ items.length ∧ (∀ b o, H1 b = some o → Fix o → H' b = some o) ∧ ∃ ρ' F', EnvR Γ.K A σ' H' ρ' F' ∧ GoS Γ A H' (fsS F') (forL G B (items.drop (i + 1)) ρ') D :=
        fun {ρ5} h5 σ5 H5 F5 e5 st5 => ⟨hlt, fun b o q x => (sA.trans st5).fix e2 b o (kf b o q x) x, ρ5, F5, e5, h5.shift (sA.trans st5)⟩
      cases hB : B ρ4 with
      | no => rw [hB] at h2; exact h2
      | err c fs ρ5 => rw [hB] at h2; exact fun C od σ' H' F' hm e s x => h2 C od σ' H' F' hm e (sA.trans s) x
      | ok fl ρ5 =>
        rw [hB] at h2
        cases fl with
        | nx => exact again h2
        | ct => exact again h2
        | bk => exact fun σ' H' F' e s => h2 σ' H' F' e (sA.trans s)
        | rt d => exact fun v σ' H' F' g e s => h2 v σ' H' F' g e (sA.trans s)
  · have e : i = items.length := by omega
    subst e
    rw [List.drop_length] at h2
    exact .inl ⟨ok2 (Nat.le_refl _), h2 σ2 H2 F2 e2 Stp.refl⟩

/-! ### while -/
def whileN (t : FT) (B : FS) : Nat → Rho → Out Fl
  | 0, _ => .no
  | n + 1, ρ => match t ρ with
    | .ok true ρ1 => (match B ρ1 with
      | .ok .nx ρ2 => whileN t B n ρ2
      | .ok .ct ρ2 => whileN t B n ρ2
      | .ok .bk ρ2 => .ok .nx ρ2
      | .ok (.rt d) ρ2 => .ok (.rt d) ρ2
      | .err c fs ρ2 => .err c fs ρ2
      | .no => .no)
    | .ok false ρ1 => .ok .nx ρ1
    | .err c fs ρ2 => .err c fs ρ2
    | .no => .no
open Classical in
noncomputable def fWhile (t : FT) (B : FS) : FS := fun ρ => if h : ∃ n, whileN t B n ρ ≠ .no then whileN t B h.choose ρ else .no
theorem whileN_succ {t : FT} {B : FS} : ∀ (n : Nat) (ρ : Rho), whileN t B n ρ ≠ .no → whileN t B (n + 1) ρ = whileN t B n ρ
  | 0, ρ, h => absurd rfl h
  | n + 1, ρ, h => by
    rw [whileN]
    conv => rhs; rw [whileN]
    rw [whileN] at h
    cases ht : t ρ with
    | no => rfl
    | err c fs ρ1 => rfl
    | ok b ρ1 =>
      cases b with
      | false => rfl
      | true =>
        rw [ht] at h
        simp only at h ⊢
        cases hB : B ρ1 with
        | no => rfl
        | err c fs ρ2 => rfl
        | ok fl ρ2 =>
          rw [hB] at h
          cases fl with
          | nx => exact whileN_succ n ρ2 h
          | ct => exact whileN_succ n ρ2 h
          | bk => rfl
          | rt d => rfl
theorem whileN_mono {t : FT} {B : FS} {n : Nat} {ρ : Rho} (h : whileN t B n ρ ≠ .no) : ∀ k, whileN t B (n + k) ρ = whileN t B n ρ
  | 0 => rfl
  | k + 1 => by
    have ih := whileN_mono h k
    rw [← Nat.add_assoc, whileN_succ _ _ (by rw [ih]; exact h), ih]
theorem fWhile_eq {t : FT} {B : FS} {n : Nat} {ρ : Rho} {o : Out Fl} (h : whileN t B n ρ = o) (ho : o ≠ .no) : fWhile t B ρ = o := by
  unfold fWhile
  have ex : ∃ n, whileN t B n ρ ≠ .no := ⟨n, by rw [h]; exact ho⟩
  rw [dif_pos ex]
  have h1 := ex.choose_spec
  have m1 := whileN_mono h1 n
  have m2 := whileN_mono (n := n) (ρ := ρ) (t := t) (B := B) (by rw [h]; exact ho) ex.choose
  rw [Nat.add_comm] at m1
  rw [← m1, m2, h]
theorem s_while {c : Expr} {body : List Stmt} {t : FT} {B : FS} {pos : Pos} (hp : PassesOwn (model X.prog X.w) X.A X.env X.xe) (hc : XT' X Γ c t) (hb : XSs' X Γ body B) : XS' X Γ (.While c body [] pos) (fWhile t B) := by
  refine PS.imp (ps_while hp hc hb) fun D σ H ⟨ρ, A, F, e, h⟩ => ?_
  unfold fWhile at h
  split at h
  · rename_i ex
    refine ⟨fun m σ' H' => ∃ ρ' F', EnvR Γ.K A σ' H' ρ' F' ∧ GoS Γ A H' (fsS F') (whileN t B m ρ') D, ⟨ex.choose, ρ, F, e, h⟩, ?_⟩
    rintro m σ2 H2 ⟨ρ2, F2, e2, h2⟩
    cases m with
    | zero => exact False.elim h2
    | succ m =>
      rw [whileN] at h2
      refine ⟨ρ2, A, F2, e2, ?_⟩
      cases ht : t ρ2 with
      | no => rw [ht] at h2; exact h2
      | err c fs ρ3 => rw [ht] at h2; exact fun C od H' F' hm e s x => h2 C od σ2 H' F' hm e s x
      | ok b ρ3 =>
        rw [ht] at h2
        intro b' H3 F3 g3 e3 st3 q3
        obtain ⟨rfl, rfl⟩ := q3
        have st3 : Stp H2 (fsS F2) H3 (fsS F3) := st3.sub fun b q => .inl q
        cases b with
        | false =>
          rw [if_neg Bool.false_ne_true]
          exact h2 σ2 H3 F3 e3 st3
        | true =>
          rw [if_pos rfl]
          refine ⟨fun σ' H' => ∃ ρ' F', EnvR Γ.K A σ' H' ρ' F' ∧ GoS Γ A H' (fsS F') (whileN t B m ρ') D, fun σ' H' q => ⟨m, Nat.lt_succ_self m, q⟩, ρ3, A, F3, e3, ?_⟩
          simp only at h2
          cases hB : B ρ3 with
          | no => rw [hB] at h2; exact h2
          | err c fs ρ5 => rw [hB] at h2; exact fun C od σ' H' F' hm e s x => h2 C od σ' H' F' hm e (st3.trans s) x
          | ok fl ρ5 =>
            rw [hB] at h2
            cases fl with
            | nx => exact fun σ5 H5 F5 e5 st5 => ⟨ρ5, F5, e5, GoS.shift h2 (st3.trans st5)⟩
            | ct => exact fun σ5 H5 F5 e5 st5 => ⟨ρ5, F5, e5, GoS.shift h2 (st3.trans st5)⟩
            | bk => exact fun σ' H' F' e s => h2 σ' H' F' e (st3.trans s)
            | rt d => exact fun v σ' H' F' g e s => h2 v σ' H' F' g e (st3.trans s)
  · exact False.elim h
end
end EE

/-! layer E, part F: defs and their calls -/
namespace EE
open PySem PySem.Spec
open PyProof.Rows hiding St
open L2

inductive CO where
  | ok (res : D) (os : List D) | err (c : Str) (fs : List (Str × D)) (os : List D) | no
def rho0 (ms : List Bool) (ds : List D) (n : Nat) : Rho := List.zipWith (fun m d => if m then Sl.io d else Sl.dt d) ms ds ++ List.replicate (n - ds.length) .un
/-- what the parameters that are lent hold in the end -/
def lent : List Bool → Rho → Option (List D)
  | [], _ => some []
  | true :: ms, .io d :: ρ => (match lent ms ρ with | some ds => some (d :: ds) | none => none)
  | false :: ms, _ :: ρ => (match lent ms ρ with | some ds => some (.non :: ds) | none => none)
  | _, _ => none
def runF (ms : List Bool) (n : Nat) (B : FS) (ds : List D) : CO := match B (rho0 ms ds n) with
  | .ok .nx ρ => (match lent ms ρ with | some os => .ok .non os | none => .no)
  | .ok (.rt d) ρ => (match lent ms ρ with | some os => .ok d os | none => .no)
  | .err c fs ρ => (match lent ms ρ with | some os => .err c fs os | none => .no)
  | _ => .no
theorem lent_len : ∀ {ms : List Bool} {ρ : Rho} {os : List D}, lent ms ρ = some os → os.length = ms.length
  | [], ρ, os, h => by cases h; rfl
  | true :: ms, .io d :: ρ, os, h => by
    unfold lent at h
    cases e : lent ms ρ with
    | none => rw [e] at h; cases h
    | some ds => rw [e] at h; cases h; simp [lent_len e]
  | false :: ms, _ :: ρ, os, h => by
    unfold lent at h
    cases e : lent ms ρ with
    | none => rw [e] at h; cases h
    | some ds => rw [e] at h; cases h; simp [lent_len e]
  | true :: ms, [], os, h => nomatch h
  | false :: ms, [], os, h => nomatch h
  | true :: ms, .un :: ρ, os, h => nomatch h
  | true :: ms, .dt _ :: ρ, os, h => nomatch h
theorem lent_at : ∀ {ms : List Bool} {ρ : Rho} {os : List D}, lent ms ρ = some os → ∀ {i : Nat}, ms[i]? = some true → ∃ d, ρ[i]? = some (.io d) ∧ os[i]? = some d
  | [], ρ, os, h, i, hi => by simp at hi
  | true :: ms, .io d :: ρ, os, h, i, hi => by
    unfold lent at h
    cases e : lent ms ρ with
    | none => rw [e] at h; cases h
    | some ds =>
      rw [e] at h; cases h
      cases i with
      | zero => exact ⟨d, rfl, rfl⟩
      | succ i => obtain ⟨d', q⟩ := lent_at e (i := i) (by simpa using hi); exact ⟨d', by simpa using q⟩
  | false :: ms, _ :: ρ, os, h, i, hi => by
    unfold lent at h
    cases e : lent ms ρ with
    | none => rw [e] at h; cases h
    | some ds =>
      rw [e] at h; cases h
      cases i with
      | zero => simp at hi
      | succ i => obtain ⟨d', q⟩ := lent_at e (i := i) (by simpa using hi); exact ⟨d', by simpa using q⟩
  | true :: ms, [], os, h, _, _ => nomatch h
  | false :: ms, [], os, h, _, _ => nomatch h
  | true :: ms, .un :: ρ, os, h, _, _ => nomatch h
  | true :: ms, .dt _ :: ρ, os, h, _, _ => nomatch h

/-- what is known of the lent things behind a call -/
structure Back (K : PySem.W.Frag) (ms : List Bool) (vs : List V) (os : List D) (H' : Hp) (G' : Fp) : Prop where
  rep : ∀ (i : Nat) a d, ms[i]? = some true → vs[i]? = some (.ref a) → os[i]? = some d → Ow K H' (.ref a) d (G' i)
  nd : ∀ i, (G' i).Nodup
  dj : ∀ i j a, a ∈ G' i → a ∈ G' j → i = j
  emp : ∀ i, ms[i]? ≠ some true → G' i = []
structure Ahead (K : PySem.W.Frag) (ms : List Bool) (vs : List V) (ds : List D) (H : Hp) (gs : Fp) : Prop where
  l1 : vs.length = ms.length
  l2 : ds.length = ms.length
  rep : ∀ (i : Nat) v d, vs[i]? = some v → ds[i]? = some d → Ow K H v d (gs i)
  ref : ∀ (i : Nat), ms[i]? = some true → ∃ a, vs[i]? = some (.ref a)
  nd : ∀ i, (gs i).Nodup
  dj : ∀ i j a, a ∈ gs i → a ∈ gs j → i = j
  emp : ∀ i, ms[i]? ≠ some true → gs i = []
def spF (K : PySem.W.Frag) (mg : Str → Option Value) (ms : List Bool) (F : List D → CO) : Sp := fun vs H Q E => ∃ ds gs, Ahead K ms vs ds H gs ∧
  match F ds with
  | .ok res os => ∀ v H' g G', os.length = ms.length → Back K ms vs os H' G' → Ow K H' v res g → g.Nodup → (∀ a ∈ g, ¬ fsS G' a) → Stp H (fsS gs) H' (plus (fsS G') g) → Q v H'
  | .err c fs os => ∀ C od H' G', os.length = ms.length → mg c = some (.ref C) → Back K ms vs os H' G' → XR K H' od fs → Stp H (fsS gs) H' (fsS G') → E (.ref C) od H'
  | .no => False
/-- the judgement's facts within a def's body -/
def CtE (K : PySem.W.Frag) (mg : Str → Option Value) (E : XK) : Ct := ⟨K, mg, fun cls d _ H => E cls d H⟩

section
variable {P : Program} {w : World} {K : PySem.W.Frag} {mg : Str → Option Value} {base : Heap}
theorem start_at {N : List Str} {vs : List V} {i : Nat} (h : i < vs.length) : (L2.start N vs)[i]? = some (some vs[i]) := by
  unfold L2.start
  rw [List.getElem?_append_left (by simpa using h), List.getElem?_map, List.getElem?_eq_getElem h]
  rfl
theorem rho0_at {ms : List Bool} {ds : List D} {n i : Nat} {b : Bool} {d : D} (h : ms[i]? = some b) (h2 : ds[i]? = some d) : (rho0 ms ds n)[i]? = some (if b then .io d else .dt d) := by
  unfold rho0
  have l1 := (List.getElem?_eq_some_iff.mp h).1
  have l2 := (List.getElem?_eq_some_iff.mp h2).1
  rw [List.getElem?_append_left (by simp; omega), List.getElem?_zipWith, h, h2]
theorem rho0_dat {ms : List Bool} {ds : List D} {n i : Nat} {s : Sl} {d : D} (hl : ds.length = ms.length) (h : (rho0 ms ds n)[i]? = some s) (h2 : s.dat = some d) : ∃ b, ms[i]? = some b ∧ ds[i]? = some d ∧ s = if b then .io d else .dt d := by
  by_cases hi : i < ms.length
  · have e1 : ms[i]? = some ms[i] := List.getElem?_eq_getElem hi
    have e2 : ds[i]? = some (ds[i]'(by omega)) := List.getElem?_eq_getElem _
    rw [rho0_at e1 e2] at h
    cases h
    refine ⟨ms[i], e1, ?_, ?_⟩ <;> cases hb : ms[i] <;> rw [hb] at h2 <;> cases h2 <;> first | exact e2 | rfl
  · unfold rho0 at h
    rw [List.getElem?_append_right (by simp; omega), List.getElem?_replicate] at h
    split at h <;> cases h
    cases h2
/-- THE RULE for a def: its body computes B -/
theorem fn_ok {x qual : Str} {st : Stmt} {f : Addr} {fd : FuncData} {N ps : List Str} {k : Nat} {ms : List Bool} {B : FS} {n : Nat} (F : Fun K x qual st f fd) (S : FnScope N ps (defScope st)) (hms : ms.length = ps.length) (hn : N.length = n)
    (hbody : ∀ (cdv : Value) (A : Around) (outer : List Env) (s : Shared) (H : Hp) (E : XK), Room k (A.deeper (envOfC qual (defScope st) s.heap.objs.size f cdv)) →
      XSs' (cxOf (L2.CX P w) P w K mg base N qual (defScope st) f cdv A outer s H E) (CtE K mg E) (defBody st) B) : FnOk P w K mg base (L2.CX P w) (k + 1) f fd ps (spF K mg ms (runF ms n B)) := by
  refine F.okX S (fun vs H Q E ⟨ds, gs, a, _⟩ => a.l1.trans hms) fun cdv A outer s H vs Q E hr ⟨ds, gs, a, h⟩ => ⟨_, hbody cdv A outer s H E hr, ?_⟩
  have hpl : ps.length ≤ N.length := by have := congrArg List.length S.pre; rw [List.length_take] at this; omega
  refine ⟨rho0 ms ds n, fun i => match vs[i]? with | some (.ref a) => a | _ => 0, gs, ⟨fun i s d h1 h2 => ?_, fun i d h1 => ?_, fun i b hb => ?_, a.nd, a.dj, ?_⟩, ?_⟩
  · obtain ⟨b, e1, e2, _⟩ := rho0_dat a.l2 h1 h2
    have l := (List.getElem?_eq_some_iff.mp e1).1
    have hv : vs[i]? = some (vs[i]'(by have := a.l1; omega)) := List.getElem?_eq_getElem _
    exact ⟨_, start_at (by have := a.l1; omega), a.rep i _ d hv e2⟩
  · obtain ⟨b, e1, e2, e3⟩ := rho0_dat a.l2 h1 rfl
    cases b with
    | false => cases e3
    | true =>
      obtain ⟨p, hp⟩ := a.ref i e1
      have l := (List.getElem?_eq_some_iff.mp hp).1
      rw [start_at l]
      rw [List.getElem?_eq_getElem l] at hp
      have hp' := Option.some.inj hp
      simp only [List.getElem?_eq_getElem l, hp']
  · by_cases e1 : ms[i]? = some true
    · have l := (List.getElem?_eq_some_iff.mp e1).1
      have e2 : ds[i]? = some (ds[i]'(by have := a.l2; omega)) := List.getElem?_eq_getElem _
      exact ⟨_, _, rho0_at e1 e2, rfl⟩
    · have := a.emp i e1
      rw [this] at hb; cases hb
  · unfold rho0 L2.start
    simp [a.l1, a.l2, hms, hn]
  · -- the end
    unfold runF at h
    have back : ∀ {ρ' : Rho} {os : List D} {σ' : L2.St} {H' : Hp} {F' : Fp}, lent ms ρ' = some os → EnvR K (fun i => match vs[i]? with | some (.ref a) => a | _ => 0) σ' H' ρ' F' →
        Back K ms vs os H' (fun i => if ms[i]? = some true then F' i else []) := fun {ρ' os σ' H' F'} hl e => by
      refine ⟨fun i p d h1 h2 h3 => ?_, fun i => ?_, fun i j b h1 h2 => ?_, fun i h1 => if_neg h1⟩
      · obtain ⟨d', h4, h5⟩ := lent_at hl h1
        rw [h3] at h5; cases h5
        rw [if_pos h1]
        obtain ⟨v, hv, wv⟩ := e.rep i _ d h4 rfl
        have := e.io i d h4
        simp only [h2] at this
        rw [hv] at this; cases this
        exact wv
      · split
        · exact e.nd i
        · exact List.nodup_nil
      · split at h1
        · split at h2
          · exact e.dj i j b h1 h2
          · cases h2
        · cases h1
    have sub : ∀ {F' : Fp} {b : Addr}, fsS (fun i => if ms[i]? = some true then F' i else []) b → fsS F' b := fun {F' b} ⟨i, hi⟩ => by
      dsimp only at hi
      split at hi
      · exact ⟨i, hi⟩
      · cases hi
    cases hB : B (rho0 ms ds n) with
    | no => rw [hB] at h; exact h
    | err c fs ρ' =>
      rw [hB] at h
      intro C od σ' H' F' hm e st x
      simp only at h
      cases hos : lent ms ρ' with
      | none => rw [hos] at h; exact False.elim h
      | some os =>
        rw [hos] at h
        exact h C od H' _ (lent_len hos) hm (back hos e) x (st.sub fun b q => sub q)
    | ok fl ρ' =>
      rw [hB] at h
      cases fl with
      | bk => exact False.elim h
      | ct => exact False.elim h
      | nx =>
        intro σ' H' F' e st
        simp only at h
        cases hos : lent ms ρ' with
        | none => rw [hos] at h; exact False.elim h
        | some os =>
          rw [hos] at h
          exact h .non H' [] _ (lent_len hos) (back hos e) (.fz .non) List.nodup_nil (fun a ha => nomatch ha) (st.sub fun b q => sub (plus_nil b q))
      | rt d =>
        intro v σ' H' F' g e st wv nd dj
        simp only at h
        cases hos : lent ms ρ' with
        | none => rw [hos] at h; exact False.elim h
        | some os =>
          rw [hos] at h
          exact h v H' g _ (lent_len hos) (back hos e) wv nd (fun b hb q => dj b hb (sub q)) (st.sub fun b q => q.imp sub id)
end

/-! ### calls -/
def pairs : List Bool → List R → Nat → List (Nat × Nat)
  | true :: ms, .bor i :: rs, p => (i, p) :: pairs ms rs (p + 1)
  | _ :: ms, _ :: rs, p => pairs ms rs (p + 1)
  | _, _, _ => []
def lends (d : D) : Bool := match d with
  | .nd k _ => !k.isF
  | _ => false
def argsOf (ρ : Rho) : List Bool → List R → Option (List D)
  | [], [] => some []
  | false :: ms, .val d :: rs => if d.isF then (match argsOf ρ ms rs with | some ds => some (d :: ds) | none => none) else none
  | true :: ms, .bor i :: rs => (match slot ρ i with
    | some d => if lends d then (match argsOf ρ ms rs with | some ds => some (d :: ds) | none => none) else none
    | none => none)
  | _, _ => none
def wbS (s : Sl) (d : D) : Sl := match s with
  | .io _ => .io d
  | _ => .dt d
def wb (os : List D) : List (Nat × Nat) → Rho → Rho
  | [], ρ => ρ
  | (i, p) :: L, ρ => wb os L (match ρ[i]? with
    | some s => ρ.set i (wbS s (os.getD p .non))
    | none => ρ)
def callU (ms : List Bool) (F : List D → CO) (rs : List R) (ρ : Rho) : Out R :=
  if ((pairs ms rs 0).map (·.1)).Nodup then
    match argsOf ρ ms rs with
    | some ds => (match F ds with
      | .ok res os => .ok (.val res) (wb os (pairs ms rs 0) ρ)
      | .err c fs os => .err c fs (wb os (pairs ms rs 0) ρ)
      | .no => .no)
    | none => .no
  else .no
def fCallU (ms : List Bool) (F : List D → CO) (fs : FA) : FE := fun ρ => (fs ρ).bind (callU ms F)

def look (L : List (Nat × Nat)) (j : Nat) : Option Nat := match L.find? (fun q => q.1 == j) with
  | some q => some q.2
  | none => none
theorem look_mem {L : List (Nat × Nat)} {j p : Nat} (h : look L j = some p) : (j, p) ∈ L := by
  unfold look at h
  split at h
  · rename_i q hq
    cases h
    have h1 := List.find?_some hq
    have h2 := List.mem_of_find?_eq_some hq
    have : q.1 = j := by simpa using h1
    subst this
    exact h2
  · cases h
theorem look_none {L : List (Nat × Nat)} {j p : Nat} (h : look L j = none) : (j, p) ∉ L := fun m => by
  unfold look at h
  split at h
  · cases h
  · rename_i hq
    have := List.find?_eq_none.mp hq (j, p) m
    simp at this
theorem look_of {L : List (Nat × Nat)} {j p : Nat} (nd : (L.map (·.1)).Nodup) (h : (j, p) ∈ L) : look L j = some p := by
  induction L with
  | nil => cases h
  | cons q L ih =>
    simp only [List.map_cons, List.nodup_cons] at nd
    unfold look
    by_cases hq : q.1 = j
    · rw [List.find?_cons_of_pos (by simp [hq])]
      rcases List.mem_cons.mp h with e | h
      · rw [← e]
      · exact absurd (List.mem_map.mpr ⟨(j, p), h, hq.symm⟩) nd.1
    · rw [List.find?_cons_of_neg (by simp [hq])]
      rcases List.mem_cons.mp h with e | h
      · rw [← e] at hq; exact absurd rfl hq
      · exact ih nd.2 h
theorem wb_len {os : List D} : ∀ {L : List (Nat × Nat)} {ρ : Rho}, (wb os L ρ).length = ρ.length
  | [], ρ => rfl
  | (i, p) :: L, ρ => by
    unfold wb
    rw [wb_len]
    split
    · simp
    · rfl
theorem wb_at {os : List D} : ∀ {L : List (Nat × Nat)} {ρ : Rho} (nd : (L.map (·.1)).Nodup) (j : Nat), (wb os L ρ)[j]? = match look L j with
    | some p => (match ρ[j]? with | some s => some (wbS s (os.getD p .non)) | none => none)
    | none => ρ[j]?
  | [], ρ, nd, j => rfl
  | (i, p) :: L, ρ, nd, j => by
    simp only [List.map_cons, List.nodup_cons] at nd
    have key : ∀ ρ1 : Rho, ρ1[j]? = (if i = j then (match ρ[j]? with | some s => some (wbS s (os.getD p .non)) | none => none) else ρ[j]?) → (wb os L ρ1)[j]? = match look ((i, p) :: L) j with
        | some p => (match ρ[j]? with | some s => some (wbS s (os.getD p .non)) | none => none)
        | none => ρ[j]? := fun ρ1 h1 => by
      rw [wb_at nd.2 j, h1]
      by_cases hij : i = j
      · subst hij
        have e1 : look ((i, p) :: L) i = some p := by unfold look; rw [List.find?_cons_of_pos (by simp)]
        have e2 : look L i = none := by
          cases e : look L i with
          | none => rfl
          | some q => exact absurd (List.mem_map.mpr ⟨_, look_mem e, rfl⟩) nd.1
        rw [e1, e2, if_pos rfl]
      · have e1 : look ((i, p) :: L) j = look L j := by unfold look; rw [List.find?_cons_of_neg (by simpa using hij)]
        rw [e1, if_neg hij]
    rw [wb]
    apply key
    cases hs : ρ[i]? with
    | none =>
      by_cases hij : i = j
      · subst hij; rw [if_pos rfl]; simp only [hs]
      · rw [if_neg hij]
    | some s =>
      by_cases hij : i = j
      · subst hij
        rw [if_pos rfl]
        simp only [hs]
        exact List.getElem?_set_self (List.getElem?_eq_some_iff.mp hs).1
      · rw [if_neg hij]
        exact List.getElem?_set_ne hij
theorem pairs_at : ∀ {ms : List Bool} {rs : List R} {p0 i p : Nat}, (i, p) ∈ pairs ms rs p0 → p0 ≤ p ∧ ms[p - p0]? = some true ∧ rs[p - p0]? = some (.bor i)
  | [], rs, p0, i, p, h => by cases rs <;> cases h
  | b :: ms, [], p0, i, p, h => by cases b <;> cases h
  | true :: ms, .bor k :: rs, p0, i, p, h => by
    rcases List.mem_cons.mp h with e | h
    · cases e; simp
    · obtain ⟨h1, h2, h3⟩ := pairs_at h
      have e : p - p0 = (p - (p0 + 1)) + 1 := by omega
      exact ⟨by omega, by rw [e]; simpa using h2, by rw [e]; simpa using h3⟩
  | true :: ms, .val d :: rs, p0, i, p, h => by
    obtain ⟨h1, h2, h3⟩ := pairs_at (ms := ms) (rs := rs) h
    have e : p - p0 = (p - (p0 + 1)) + 1 := by omega
    exact ⟨by omega, by rw [e]; simpa using h2, by rw [e]; simpa using h3⟩
  | false :: ms, r :: rs, p0, i, p, h => by
    have h : (i, p) ∈ pairs ms rs (p0 + 1) := by cases r <;> exact h
    obtain ⟨h1, h2, h3⟩ := pairs_at (ms := ms) (rs := rs) h
    have e : p - p0 = (p - (p0 + 1)) + 1 := by omega
    exact ⟨by omega, by rw [e]; simpa using h2, by rw [e]; simpa using h3⟩
theorem pairs_of : ∀ {ms : List Bool} {rs : List R} {p0 i k : Nat}, ms[k]? = some true → rs[k]? = some (.bor i) → (i, p0 + k) ∈ pairs ms rs p0
  | [], rs, p0, i, k, h, _ => by simp at h
  | b :: ms, [], p0, i, k, _, h => by simp at h
  | b :: ms, r :: rs, p0, i, 0, h1, h2 => by
    simp at h1 h2
    subst h1; subst h2
    exact List.mem_cons_self
  | b :: ms, r :: rs, p0, i, k + 1, h1, h2 => by
    have ih := pairs_of (p0 := p0 + 1) (i := i) (k := k) (ms := ms) (rs := rs) (by simpa using h1) (by simpa using h2)
    have e : p0 + (k + 1) = p0 + 1 + k := by omega
    rw [e]
    cases b <;> cases r <;> first | exact ih | exact List.mem_cons_of_mem _ ih
theorem argsOf_at {ρ : Rho} : ∀ {ms : List Bool} {rs : List R} {ds : List D}, argsOf ρ ms rs = some ds → ds.length = ms.length ∧ rs.length = ms.length ∧ ∀ (p : Nat) b r d, ms[p]? = some b → rs[p]? = some r → ds[p]? = some d →
    (b = false ∧ r = .val d ∧ d.isF = true) ∨ (b = true ∧ ∃ i, r = .bor i ∧ slot ρ i = some d ∧ lends d = true)
  | [], [], ds, h => by cases h; exact ⟨rfl, rfl, fun p b r d h => by simp at h⟩
  | [], _ :: _, ds, h => nomatch h
  | true :: _, [], ds, h => nomatch h
  | false :: _, [], ds, h => nomatch h
  | false :: ms, .val x :: rs, ds, h => by
    unfold argsOf at h
    split at h
    · rename_i hx
      cases e : argsOf ρ ms rs with
      | none => rw [e] at h; cases h
      | some ds' =>
        rw [e] at h; cases h
        obtain ⟨l1, l2, c⟩ := argsOf_at e
        refine ⟨by simp [l1], by simp [l2], fun p b r d h1 h2 h3 => ?_⟩
        cases p with
        | zero => simp at h1 h2 h3; subst h1; subst h2; subst h3; exact .inl ⟨rfl, rfl, hx⟩
        | succ p => exact c p b r d (by simpa using h1) (by simpa using h2) (by simpa using h3)
    · cases h
  | true :: ms, .bor i :: rs, ds, h => by
    unfold argsOf at h
    split at h
    · rename_i x hx
      split at h
      · rename_i hl
        cases e : argsOf ρ ms rs with
        | none => rw [e] at h; cases h
        | some ds' =>
          rw [e] at h; cases h
          obtain ⟨l1, l2, c⟩ := argsOf_at e
          refine ⟨by simp [l1], by simp [l2], fun p b r d h1 h2 h3 => ?_⟩
          cases p with
          | zero => simp at h1 h2 h3; subst h1; subst h2; subst h3; exact .inr ⟨rfl, i, rfl, hx, hl⟩
          | succ p => exact c p b r d (by simpa using h1) (by simpa using h2) (by simpa using h3)
      · cases h
    · cases h
  | false :: ms, .bor i :: rs, ds, h => nomatch h
  | true :: ms, .val d :: rs, ds, h => nomatch h
theorem ResL.at_ {K : PySem.W.Frag} {σ : L2.St} {H : Hp} {F : Fp} {rs : List R} {vs : List V} {g : List Addr} (q : ResL K σ H F rs vs g) : rs.length = vs.length ∧ ∀ (p : Nat) r v, rs[p]? = some r → vs[p]? = some v → ∃ g', ResR K σ H F r v g' := by
  induction q with
  | nil => exact ⟨rfl, fun p r v h => by simp at h⟩
  | @cons r v g rs vs gs q t _ ih =>
    refine ⟨by simp [ih.1], fun p r' v' h1 h2 => ?_⟩
    cases p with
    | zero => simp at h1 h2; subst h1; subst h2; exact ⟨_, q⟩
    | succ p => exact ih.2 p r' v' (by simpa using h1) (by simpa using h2)
theorem lends_ref {K : PySem.W.Frag} {H : Hp} {v : V} {d : D} {g : List Addr} (w : Ow K H v d g) (h : lends d = true) : ∃ a, v = .ref a := by
  cases w with
  | fz w =>
    cases w with
    | nd h1 h2 h3 => exact ⟨_, rfl⟩
    | _ => cases h
  | nd h1 h2 h3 h4 => exact ⟨_, rfl⟩
  | tup h1 h2 h3 h4 => exact ⟨_, rfl⟩

/-- ahead of a call -/
theorem call_ahead {K : PySem.W.Frag} {A : Nat → Addr} {σ : L2.St} {H1 : Hp} {ρ1 : Rho} {F1 : Fp} {ms : List Bool} {rs : List R} {vs : List V} {g1 : List Addr} {ds : List D} (e1 : EnvR K A σ H1 ρ1 F1) (q1 : ResL K σ H1 F1 rs vs g1)
    (hnd : ((pairs ms rs 0).map (·.1)).Nodup) (ha : argsOf ρ1 ms rs = some ds) : Ahead K ms vs ds H1 (fun p => if ms[p]? = some true then (match rs[p]? with | some (.bor i) => F1 i | _ => []) else []) := by
  obtain ⟨l1, l2, c⟩ := argsOf_at ha
  obtain ⟨l3, q⟩ := q1.at_
  refine ⟨by omega, l1, fun p v d hv hd => ?_, fun p hp => ?_, fun p => ?_, fun p p' a h1 h2 => ?_, fun p hp => if_neg hp⟩
  · have lp := (List.getElem?_eq_some_iff.mp hd).1
    have em : ms[p]? = some (ms[p]'(by omega)) := List.getElem?_eq_getElem _
    have er : rs[p]? = some (rs[p]'(by omega)) := List.getElem?_eq_getElem _
    obtain ⟨g', qr⟩ := q p _ v er hv
    rcases c p _ _ d em er hd with ⟨hb, hr, hf⟩ | ⟨hb, i, hr, hs, hl⟩
    · rw [em, hb, if_neg (by simp)]
      rw [hr] at qr
      exact .fz (qr.1.isF hf).1
    · rw [em, hb, if_pos rfl, er, hr]
      rw [hr] at qr
      obtain ⟨s, hs1, hs2, _⟩ := slot_at hs
      obtain ⟨v', hv', w⟩ := e1.rep i s d hs1 hs2
      rw [qr.1] at hv'; cases hv'
      exact w
  · have lp := (List.getElem?_eq_some_iff.mp hp).1
    have er : rs[p]? = some (rs[p]'(by omega)) := List.getElem?_eq_getElem _
    have ev : vs[p]? = some (vs[p]'(by omega)) := List.getElem?_eq_getElem _
    have ed : ds[p]? = some (ds[p]'(by omega)) := List.getElem?_eq_getElem _
    obtain ⟨g', qr⟩ := q p _ _ er ev
    rcases c p _ _ _ hp er ed with ⟨hb, _⟩ | ⟨_, i, hr, hs, hl⟩
    · cases hb
    · rw [hr] at qr
      obtain ⟨s, hs1, hs2, _⟩ := slot_at hs
      obtain ⟨v', hv', w⟩ := e1.rep i s _ hs1 hs2
      rw [qr.1] at hv'; cases hv'
      obtain ⟨a, e⟩ := lends_ref w hl
      exact ⟨a, by rw [ev, e]⟩
  · split
    · split
      · exact e1.nd _
      · exact List.nodup_nil
    · exact List.nodup_nil
  · split at h1
    · rename_i m1
      split at h1
      · rename_i i r1
        split at h2
        · rename_i m2
          split at h2
          · rename_i j r2
            have ij := e1.dj i j a h1 h2
            subst ij
            have a1 := look_of hnd (pairs_of (p0 := 0) m1 r1)
            have a2 := look_of hnd (pairs_of (p0 := 0) m2 r2)
            rw [a1] at a2
            have := Option.some.inj a2
            omega
          · cases h2
        · cases h2
      · cases h1
    · cases h1
/-- behind a call -/
theorem call_behind {K : PySem.W.Frag} {A : Nat → Addr} {σ : L2.St} {H1 H' : Hp} {ρ1 : Rho} {F1 : Fp} {ms : List Bool} {rs : List R} {vs : List V} {g1 g : List Addr} {ds os : List D} {G' : Fp} (e1 : EnvR K A σ H1 ρ1 F1) (q1 : ResL K σ H1 F1 rs vs g1)
    (hnd : ((pairs ms rs 0).map (·.1)).Nodup) (ha : argsOf ρ1 ms rs = some ds) (lo : os.length = ms.length) (bk : Back K ms vs os H' G')
    (st : Stp H1 (fsS fun p => if ms[p]? = some true then (match rs[p]? with | some (.bor i) => F1 i | _ => []) else []) H' (plus (fsS G') g)) :
    ∃ F2, EnvR K A σ H' (wb os (pairs ms rs 0) ρ1) F2 ∧ (∀ a, fsS G' a ↔ ∃ j p, look (pairs ms rs 0) j = some p ∧ a ∈ G' p) ∧ Stp H1 (fsS F1) H' (plus (fsS F2) g) ∧ ∀ a, a ∈ g → fsS F2 a → fsS G' a := by
  obtain ⟨l1, l2, c⟩ := argsOf_at ha
  obtain ⟨l3, q⟩ := q1.at_
  obtain ⟨L, hL⟩ : ∃ L, L = pairs ms rs 0 := ⟨_, rfl⟩
  rw [← hL] at hnd ⊢
  have inL : ∀ {j p}, look L j = some p → ms[p]? = some true ∧ rs[p]? = some (.bor j) := fun {j p} h => by
    have := look_mem h
    rw [hL] at this
    simpa using (pairs_at this).2
  have lookp : ∀ {j p}, ms[p]? = some true → rs[p]? = some (.bor j) → look L j = some p := fun {j p} h1 h2 => by
    have := pairs_of (p0 := 0) h1 h2
    rw [← hL, Nat.zero_add] at this
    exact look_of hnd this
  have gsF : ∀ {b : Addr}, fsS (fun p => if ms[p]? = some true then (match rs[p]? with | some (.bor i) => F1 i | _ => []) else []) b → ∃ j p, look L j = some p ∧ b ∈ F1 j := fun {b} ⟨p, hp⟩ => by
    dsimp only at hp
    split at hp
    · rename_i m1
      split at hp
      · rename_i i r1
        exact ⟨i, p, lookp m1 r1, hp⟩
      · cases hp
    · cases hp
  have outp : ∀ {b : Addr} {o : HO}, H1 b = some o → (∀ j p, look L j = some p → b ∉ F1 j) → H' b = some o := fun {b o} eo h => st.1 b o eo fun z => by
    obtain ⟨j, p, h1, h2⟩ := gsF z
    exact h j p h1 h2
  have fixp : ∀ {b : Addr} {o : HO}, H1 b = some o → Fix o → H' b = some o := fun {b o} eo x => outp eo fun j p _ z => e1.notFix eo x ⟨j, z⟩
  have sep : ∀ {j k p : Nat} {a : Addr}, look L j = none → look L k = some p → a ∈ F1 j → a ∉ G' p := fun {j k p a} h1 h2 h3 h4 => by
    obtain ⟨o, eo, _⟩ := e1.mut ⟨j, h3⟩
    rcases st.2 a (.inl ⟨p, h4⟩) with z | z
    · rw [eo] at z; cases z
    · obtain ⟨j', p', h5, h6⟩ := gsF z
      have := e1.dj j j' a h3 h6
      subst this
      rw [h1] at h5; cases h5
  have slotOf : ∀ {j p}, look L j = some p → ∃ s d v, ρ1[j]? = some s ∧ s.dat = some d ∧ σ[j]? = some (some v) ∧ vs[p]? = some v ∧ ∃ a, v = .ref a := fun {j p} h => by
    obtain ⟨m1, r1⟩ := inL h
    have lp := (List.getElem?_eq_some_iff.mp m1).1
    have ev : vs[p]? = some (vs[p]'(by omega)) := List.getElem?_eq_getElem _
    have ed : ds[p]? = some (ds[p]'(by omega)) := List.getElem?_eq_getElem _
    obtain ⟨g', qr⟩ := q p _ _ r1 ev
    rcases c p _ _ _ m1 r1 ed with ⟨hb, _⟩ | ⟨_, i, hr, hs, hl⟩
    · cases hb
    · cases hr
      obtain ⟨s, hs1, hs2, _⟩ := slot_at hs
      obtain ⟨v', hv', w⟩ := e1.rep _ s _ hs1 hs2
      rw [qr.1] at hv'; cases hv'
      exact ⟨s, _, _, hs1, hs2, qr.1, ev, lends_ref w hl⟩
  refine ⟨fun j => match look L j with | some p => G' p | none => F1 j, ⟨fun j s d h1 h2 => ?_, fun j d h1 => ?_, fun j a h1 => ?_, fun j => ?_, fun j k a h1 h2 => ?_, ?_⟩, fun a => ⟨fun ⟨p, hp⟩ => ?_, fun ⟨j, p, _, h2⟩ => ⟨p, h2⟩⟩, ⟨fun b o eo n => ?_, fun b z => ?_⟩, fun a ha z => ?_⟩
  · rw [wb_at hnd] at h1
    cases hk : look L j with
    | none =>
      rw [hk] at h1
      obtain ⟨v, hv, w⟩ := e1.rep j s d h1 h2
      refine ⟨v, hv, w.stay fun b o eo z => ?_⟩
      rcases z with z | z
      · exact fixp eo z
      · exact outp eo fun j' p h3 h4 => by
          have := e1.dj j j' b z h4
          subst this
          rw [hk] at h3; cases h3
    | some p =>
      rw [hk] at h1
      obtain ⟨s0, d0, v, i1, i2, i3, i4, a, rfl⟩ := slotOf hk
      rw [i1] at h1
      cases h1
      obtain ⟨m1, r1⟩ := inL hk
      have lp := (List.getElem?_eq_some_iff.mp m1).1
      have eo : os[p]? = some (os[p]'(by omega)) := List.getElem?_eq_getElem _
      have ed : d = os[p]'(by omega) := by
        have : os.getD p .non = os[p]'(by omega) := by rw [List.getD_eq_getElem?_getD, eo]; rfl
        rw [this] at h2
        cases s0 <;> (cases h2; rfl)
      rw [ed]
      exact ⟨_, i3, bk.rep p a _ m1 i4 eo⟩
  · rw [wb_at hnd] at h1
    cases hk : look L j with
    | none => rw [hk] at h1; exact e1.io j d h1
    | some p =>
      rw [hk] at h1
      obtain ⟨s0, d0, v, i1, i2, i3, i4, a, rfl⟩ := slotOf hk
      rw [i1] at h1
      cases s0 with
      | io x => exact e1.io j x i1
      | dt x => cases h1
      | un => cases i2
  · rw [wb_at hnd]
    cases hk : look L j with
    | none => rw [hk] at h1; exact e1.emp j a h1
    | some p =>
      obtain ⟨s0, d0, v, i1, i2, i3, i4, a, rfl⟩ := slotOf hk
      simp only [i1]
      exact ⟨_, os.getD p .non, rfl, by cases s0 <;> rfl⟩
  · split
    · exact bk.nd _
    · exact e1.nd j
  · cases hk : look L j with
    | none =>
      rw [hk] at h1
      cases hk2 : look L k with
      | none => rw [hk2] at h2; exact e1.dj j k a h1 h2
      | some p => rw [hk2] at h2; exact absurd h2 (sep hk hk2 h1)
    | some p =>
      rw [hk] at h1
      cases hk2 : look L k with
      | none => rw [hk2] at h2; exact absurd h1 (sep hk2 hk h2)
      | some p2 =>
        rw [hk2] at h2
        have := bk.dj p p2 a h1 h2
        subst this
        have a1 := (inL hk).2
        have a2 := (inL hk2).2
        rw [a1] at a2
        cases a2
        rfl
  · rw [wb_len]; exact e1.len
  · by_cases m1 : ms[p]? = some true
    · have lp := (List.getElem?_eq_some_iff.mp m1).1
      have er : rs[p]? = some (rs[p]'(by omega)) := List.getElem?_eq_getElem _
      have ed : ds[p]? = some (ds[p]'(by omega)) := List.getElem?_eq_getElem _
      rcases c p _ _ _ m1 er ed with ⟨hb, _⟩ | ⟨_, i, hr, hs, hl⟩
      · cases hb
      · rw [hr] at er
        exact ⟨i, p, lookp m1 er, hp⟩
    · rw [bk.emp p m1] at hp; cases hp
  · exact outp eo fun j p _ z => n ⟨j, z⟩
  · rcases z with ⟨j, z⟩ | z
    · dsimp only at z
      cases hk : look L j with
      | none => rw [hk] at z; exact .inr ⟨j, z⟩
      | some p =>
        rw [hk] at z
        rcases st.2 b (.inl ⟨p, z⟩) with y | y
        · exact .inl y
        · obtain ⟨j', p', h5, h6⟩ := gsF y
          exact .inr ⟨j', h6⟩
    · rcases st.2 b (.inr z) with y | y
      · exact .inl y
      · obtain ⟨j', p', h5, h6⟩ := gsF y
        exact .inr ⟨j', h6⟩
  · obtain ⟨j, z⟩ := z
    dsimp only at z
    cases hk : look L j with
    | none =>
      rw [hk] at z
      obtain ⟨o, eo, _⟩ := e1.mut ⟨j, z⟩
      rcases st.2 a (.inr ha) with y | y
      · rw [eo] at y; cases y
      · obtain ⟨j', p', h5, h6⟩ := gsF y
        have := e1.dj j j' a z h6
        subst this
        rw [hk] at h5; cases h5
    | some p => rw [hk] at z; exact ⟨p, z⟩

section
variable {X : Cx} {Γ : Ct}
theorem x_call {x : Str} {k : Nat} {f : Addr} {fd : FuncData} {ps : List Str} {ms : List Bool} {F : List D → CO} {e : Expr} {es : List Expr} {fs : FA} {p pos : Pos} (fit : Fit X Γ)
    (G : FnOk X.prog X.w X.K X.mg X.base (L2.CX X.prog X.w) k f fd ps (spF X.K X.mg ms F)) (hr : Room k X.A) (hg : Gl X x) (hm : X.mg x = some (.ref f)) (hk : PySem.W.keepIn X.K (.ref f) = true) (hb : Binds X.K fd ps [])
    (ha : XA' X Γ (e :: es) fs) (hdb : (x == ("__debug__" : Str)) = false := by decide) (he : starEach (e :: es) X.env = (false, eval e X.env) :: starEach es X.env := by rfl) (hpl : (backTo pos (starEach es X.env)).any (·.1) = false := by rfl) :
    XE' X Γ (.Call (.Name x p) (e :: es) [] pos) (fCallU ms F fs) := by
  refine PE.imp (pe_callSD G hr hg hm hk hb .nil (E := WE Γ.W) fit.exc ha hdb he hpl) fun σ H Q ⟨ρ, A, F0, e, h⟩ => ?_
  refine ⟨ρ, A, F0, e, Go.bind h Stp.refl fun rs ρ1 vs H1 F1 g1 _ e1 st1 q1 h1 => ?_⟩
  rw [List.append_nil]
  unfold callU at h1
  split at h1
  · rename_i hnd
    split at h1
    · rename_i ds hds
      refine ⟨ds, _, by rw [← fit.K]; exact call_ahead e1 q1 hnd hds, ?_⟩
      have st1' : Stp H (fsS F0) H1 (fsS F1) := st1.sub fun b q => .inl q
      cases hF : F ds with
      | no => rw [hF] at h1; exact h1
      | err c fs' os =>
        rw [hF] at h1
        intro C od H' G' lo hmc bk xr st
        rw [← fit.K] at bk xr
        rw [← fit.mg] at hmc
        obtain ⟨F2, e2, _, st2, _⟩ := call_behind (g := []) e1 q1 hnd hds lo bk (st.sub plus_nil)
        exact h1 C od H' F2 hmc e2 (st1'.trans (st2.sub fun b q => .inl q)) xr
      | ok res os =>
        rw [hF] at h1
        intro v H' g G' lo bk wv nd dj st
        rw [← fit.K] at bk wv
        obtain ⟨F2, e2, _, st2, sf⟩ := call_behind e1 q1 hnd hds lo bk st
        refine Go.ok h1 e2 (st1'.trans st2) ⟨wv, nd, fun a ha z => ?_⟩
        exact dj a ha (sf a ha z)
    · exact False.elim h1
  · exact False.elim h1
end
end EE

/-! layer E, part G: what is walked; comprehensions -/
namespace EE
open PySem PySem.Spec
open PyProof.Rows hiding St
open L2

theorem PI.imp {X : Cx} {tg e : Expr} {t t' : TI} (h : PI X tg e t) (k : ∀ σ H Q, t' σ H Q → t σ H Q) : PI X tg e t' := ⟨fun pins s σ H R I q => h.run pins s σ H R I (k _ _ _ q)⟩
theorem PTs.imp {X : Cx} {e : List Expr} {t t' : TT} (h : PTs X e t) (k : ∀ σ H Q, t' σ H Q → t σ H Q) : PTs X e t' := ⟨fun pins s σ H Q I q => h.run pins s σ H Q I (k _ _ _ q)⟩
/-- a list or a tuple is walked -/
def iSeq (K : PySem.W.Frag) (tl : TE) : TI := fun σ H R => tl σ H fun x H1 => ∃ a, x = .ref a ∧ (((∃ xs, SqL K H1 a xs) ∧ R (Itl K a) H1) ∨ ((∃ xs, SqT K H1 a xs) ∧ R (Itt K a) H1))
theorem pi_seq {X : Cx} {tg l : Expr} {tl : TE} (hl : PE X l tl) : PI X tg l (iSeq X.K tl) := by
  refine ⟨fun pins s σ H R I h => ?_⟩
  refine thn (hl.run pins s σ H _ I h) fun v s1 ⟨x, H1, I1, r1, q1⟩ => ?_
  obtain ⟨a, e, q⟩ := q1
  subst e
  cases r1
  rcases q with ⟨⟨xs, hq⟩, q⟩ | ⟨⟨xs, hq⟩, q⟩
  · obtain ⟨its, rv, p, hz⟩ := I1.list hq
    refine wpAny_pyIter_list p.isList ?_
    refine ⟨s1.heap.objs.size, [s1.heap.objs.size], _, _, H1, rfl, I1.kept (t' := s1.toks) fun b o e => Heap.get?_push_of_some _ e, turn_list a _, ⟨_, Heap.get?_push_size _ rfl, rfl, rfl⟩, fun b hb => ?_, q⟩
    have e : b = s1.heap.objs.size := by simpa using hb
    subst e
    exact I1.fpOk (Nat.le_refl _) (I1.hok.fresh (Nat.le_refl _))
  · obtain ⟨its, rv, p, hz⟩ := I1.tuple hq
    refine wpAny_pyIter_tuple (show s1.heap.IsTuple a its.toArray from p) ?_
    refine ⟨s1.heap.objs.size, [s1.heap.objs.size], _, _, H1, rfl, I1.kept (t' := s1.toks) fun b o e => Heap.get?_push_of_some _ e, turn_tuple a _, ⟨_, Heap.get?_push_size _ rfl, rfl, rfl⟩, fun b hb => ?_, q⟩
    have e : b = s1.heap.objs.size := by simpa using hb
    subst e
    exact I1.fpOk (Nat.le_refl _) (I1.hok.fresh (Nat.le_refl _))
/-- unchanging lists, tuples of one content -/
theorem SqZ.inj {K : PySem.W.Frag} {H : Hp} {a : Addr} {xs ys : List V} (h : SqZ K H a xs) (h' : SqL K H a ys) (f : ∀ o, H a = some o → K.lookup a = none) : xs = ys := by
  rcases h with ⟨o, h⟩ | ⟨o, its, n, k1, k2, k3, k4, k5, k6⟩
  · rcases h' with (h' | ⟨o', h'⟩) | ⟨o', its', n', j1, j2, j3, j4, j5, j6⟩
    · rw [h] at h'; cases h'
    · rw [h] at h'; cases h'; rfl
    · rw [f _ h] at j1; cases j1
  · rcases h' with (h' | ⟨o', h'⟩) | ⟨o', its', n', j1, j2, j3, j4, j5, j6⟩
    · rw [f _ h'] at k1; cases k1
    · rw [f _ h'] at k1; cases k1
    · rw [k1] at j1; cases j1
      rw [k4] at j4; cases j4
      exact k6.inj j6

def itm (d : D) : Option (List D) := match d with
  | .nd .tup xs => some xs
  | .nd (.lst false) xs => some xs
  | _ => none
def iti (r : R) (ρ : Rho) : Out (List D) := match r with
  | .val d => (match itm d with
    | some xs => .ok xs ρ
    | none => .no)
  | .bor _ => .no
def fiSeq (f : FE) : FI := fun ρ => (fFz f ρ).bind iti
section
variable {X : Cx} {Γ : Ct}
theorem ItOk.seqL {K : PySem.W.Frag} {H1 : Hp} {a : Addr} {vs : List V} {xs : List D} (h : SqZ K H1 a vs) (hl : vs.length = xs.length) (c : ∀ (i : Nat) v d, vs[i]? = some v → xs[i]? = some d → Fz K H1 v d) : ItOk K (Itl K a) H1 xs := by
  intro i H kf
  have q := (h.stay kf).sq
  refine ⟨fun d hd => ?_, fun hi => ⟨vs, q, by omega⟩⟩
  obtain ⟨li, _⟩ := List.getElem?_eq_some_iff.mp hd
  have ev : vs[i]? = some (vs[i]'(by omega)) := List.getElem?_eq_getElem _
  refine ⟨⟨vs, _, q, ev⟩, fun x H' ⟨e1, e2⟩ => ?_⟩
  subst e1
  refine ⟨fun b o z => z, ?_⟩
  have := e2 vs q
  rw [ev] at this; cases this
  exact (c i _ d ev hd).stay kf
theorem ItOk.seqT {K : PySem.W.Frag} {H1 : Hp} {a : Addr} {vs : List V} {xs : List D} (h : SqT K H1 a vs) (hl : vs.length = xs.length) (c : ∀ (i : Nat) v d, vs[i]? = some v → xs[i]? = some d → Fz K H1 v d) : ItOk K (Itt K a) H1 xs := by
  intro i H kf
  have q := SqT.stay h kf
  refine ⟨fun d hd => ?_, fun hi => ⟨vs, q, by omega⟩⟩
  obtain ⟨li, _⟩ := List.getElem?_eq_some_iff.mp hd
  have ev : vs[i]? = some (vs[i]'(by omega)) := List.getElem?_eq_getElem _
  refine ⟨⟨vs, _, q, ev⟩, fun x H' ⟨e1, e2⟩ => ?_⟩
  subst e1
  refine ⟨fun b o z => z, ?_⟩
  have := e2 vs q
  rw [ev] at this; cases this
  exact (c i _ d ev hd).stay kf
mutual
theorem frz_isF : ∀ d : D, d.frz.isF = true
  | .non => rfl
  | .bl _ => rfl
  | .int _ => rfl
  | .str _ => rfl
  | .nd k xs => by
    show (k.frz.isF && D.isFL (D.frzL xs)) = true
    rw [frzL_isF xs]
    cases k <;> rfl
theorem frzL_isF : ∀ xs : List D, D.isFL (D.frzL xs) = true
  | [] => rfl
  | x :: xs => by
    show (D.isF (D.frz x) && D.isFL (D.frzL xs)) = true
    rw [frz_isF x, frzL_isF xs]
    rfl
end
theorem fFz_isF {f : FE} {ρ ρ' : Rho} {d : D} (h : fFz f ρ = .ok (.val d) ρ') : d.isF = true := by
  unfold fFz at h
  cases ho : fOwn f ρ with
  | no => rw [ho] at h; cases h
  | err c fs ρ1 => rw [ho] at h; cases h
  | ok r ρ1 =>
    rw [ho] at h
    cases r with
    | bor i => cases h
    | val x =>
      have h : (if x.isF then Out.ok (R.val x) ρ1 else .ok (.val x.frz) ρ1) = .ok (.val d) ρ' := h
      split at h
      · rename_i hx; cases h; exact hx
      · cases h; exact frz_isF x
theorem xi_seq {tg l : Expr} {f : FE} (hK : Γ.K = X.K) (h : XE' X Γ l f) : XI' X Γ tg l (fiSeq f) := by
  refine PI.imp (pi_seq (x_fz h)) fun σ H R ⟨ρ, A, F, e, h⟩ => ?_
  refine ⟨ρ, A, F, e, Go.bind h Stp.refl fun r ρ1 v H1 F1 g1 ho e1 st1 q1 h1 => ?_⟩
  unfold iti at h1
  cases r with
  | bor i => exact False.elim h1
  | val d =>
    simp only at h1
    split at h1
    · rename_i xs hx
      have hF := fFz_isF ho
      obtain ⟨w, nd, dj⟩ := q1
      have fin : ∀ J, ItOk Γ.K J H1 xs → R J H1 := fun J ok => Go.ok (g := []) h1 e1 (st1.sub fun b q => q.elim .inl fun z => nomatch z) ⟨ok, rfl⟩
      unfold itm at hx
      split at hx
      · cases hx
        cases w with
        | fz w =>
          cases w with
          | @nd a _ vs _ h1 h2 h3 => exact ⟨a, rfl, .inr ⟨⟨vs, by rw [← hK]; exact h1⟩, by rw [← hK]; exact fin _ (ItOk.seqT h1 h2 h3)⟩⟩
        | nd h1 h2 h3 h4 => exact False.elim h1
        | @tup a vs _ fs h1 h2 h3 h4 =>
          cases ((Ow.tup h1 h2 h3 h4).isF hF).1 with
          | @nd a _ vs' _ h1 h2 h3 => exact ⟨a, rfl, .inr ⟨⟨vs', by rw [← hK]; exact h1⟩, by rw [← hK]; exact fin _ (ItOk.seqT h1 h2 h3)⟩⟩
      · cases hx
        cases w with
        | fz w =>
          cases w with
          | @nd a _ vs _ h1 h2 h3 => exact ⟨a, rfl, .inl ⟨⟨vs, by rw [← hK]; exact SqZ.sq h1⟩, by rw [← hK]; exact fin _ (ItOk.seqL h1 h2 h3)⟩⟩
        | nd h1 h2 h3 h4 => exact False.elim h1
      · cases hx
    · exact False.elim h1
/-! ### ranges -/
def int1 : List D → Option Int
  | [.int j] => some j
  | _ => none
def upTo (lo : Int) (n : Nat) : List D := (List.range n).map fun i => D.int (lo + (i : Nat))
def Sm (j : Int) : Prop := -(2 ^ 62) ≤ j ∧ j < 2 ^ 62
noncomputable instance (j : Int) : Decidable (Sm j) := Classical.propDecidable _
noncomputable def rng1 (rs : List R) (ρ : Rho) : Out (List D) := match rds ρ rs with
  | some [.int j] => if Sm j then .ok (upTo 0 j.toNat) ρ else .no
  | _ => .no
noncomputable def rng2 (rs : List R) (ρ : Rho) : Out (List D) := match rds ρ rs with
  | some [.int i, .int j] => if Sm i ∧ Sm j then .ok (upTo i (j - i).toNat) ρ else .no
  | _ => .no
noncomputable def fiRng1 (fs : FA) : FI := fun ρ => (fs ρ).bind rng1
noncomputable def fiRng2 (fs : FA) : FI := fun ρ => (fs ρ).bind rng2
theorem ItOk.rng {K : PySem.W.Frag} {H1 : Hp} {lo : Int} {n : Nat} : ItOk K (Itr lo n) H1 (upTo lo n) := by
  intro i H kf
  have hl : (upTo lo n).length = n := by simp [upTo]
  refine ⟨fun d hd => ?_, fun hi => ?_⟩
  · have li := (List.getElem?_eq_some_iff.mp hd).1
    rw [hl] at li
    have : d = .int (lo + (i : Nat)) := by
      unfold upTo at hd
      rw [List.getElem?_map, List.getElem?_range li] at hd
      cases hd; rfl
    subst this
    refine ⟨li, fun x H' ⟨e1, e2⟩ => ?_⟩
    subst e1; subst e2
    exact ⟨fun b o z => z, .int _⟩
  · show n ≤ i
    omega
theorem Rds.int1 {K : PySem.W.Frag} {H : Hp} {vs : List V} {j : Int} (h : Rds K H vs [.int j]) : vs = [.int j] := by
  match vs, h with
  | [v], ⟨⟨g, w⟩, _⟩ => rw [w.int]
theorem Rds.int2 {K : PySem.W.Frag} {H : Hp} {vs : List V} {i j : Int} (h : Rds K H vs [.int i, .int j]) : vs = [.int i, .int j] := by
  match vs, h with
  | [v, v'], ⟨⟨g, w⟩, ⟨g', w'⟩, _⟩ => rw [w.int, w'.int]
theorem xi_rng1 {tg a : Expr} {fs : FA} {p pos : Pos} (hg : Gl X "range") (hm : X.mg "range" = none) (ha : XA' X Γ [a] fs) (hs : starEach [a] X.env = [(false, eval a X.env)] := by rfl) : XI' X Γ tg (.Call (.Name "range" p) [a] [] pos) (fiRng1 fs) := by
  refine PI.imp (pi_range1 hg hm ha hs) fun σ H R ⟨ρ, A, F, e, h⟩ => ?_
  refine ⟨ρ, A, F, e, Go.bind h Stp.refl fun rs ρ1 vs H1 F1 g1 _ e1 st1 q1 h1 => ?_⟩
  unfold rng1 at h1
  split at h1
  · rename_i j hj
    split at h1
    · rename_i hb
      have := Rds.int1 (q1.read e1 hj)
      subst this
      exact ⟨j, rfl, hb.1, hb.2, Go.ok (g := []) h1 e1 (st1.sub fun b q => q.elim .inl fun z => nomatch z) ⟨ItOk.rng, rfl⟩⟩
    · exact False.elim h1
  · exact False.elim h1
theorem xi_rng2 {tg a b : Expr} {fs : FA} {p pos : Pos} (hg : Gl X "range") (hm : X.mg "range" = none) (ha : XA' X Γ [a, b] fs) (hs : starEach [a, b] X.env = [(false, eval a X.env), (false, eval b X.env)] := by rfl) (hs2 : starEach [b] X.env = [(false, eval b X.env)] := by rfl) :
    XI' X Γ tg (.Call (.Name "range" p) [a, b] [] pos) (fiRng2 fs) := by
  refine PI.imp (pi_range2 hg hm ha hs hs2) fun σ H R ⟨ρ, A, F, e, h⟩ => ?_
  refine ⟨ρ, A, F, e, Go.bind h Stp.refl fun rs ρ1 vs H1 F1 g1 _ e1 st1 q1 h1 => ?_⟩
  unfold rng2 at h1
  split at h1
  · rename_i i j hj
    split at h1
    · rename_i hb
      have := Rds.int2 (q1.read e1 hj)
      subst this
      exact ⟨i, j, rfl, ⟨hb.1.1, hb.1.2, hb.2.1, hb.2.2⟩, Go.ok (g := []) h1 e1 (st1.sub fun b q => q.elim .inl fun z => nomatch z) ⟨ItOk.rng, rfl⟩⟩
    · exact False.elim h1
  · exact False.elim h1

/-! ### comprehensions -/
def wipeR (ρ : Rho) : List Nat → Rho
  | [] => ρ
  | v :: vs => (wipeR ρ vs).set v .un
def backR (ρ1 : Rho) : List Nat → Rho → Rho
  | [], ρ => ρ
  | v :: vs, ρ => (match ρ1[v]? with
    | some (.dt d) => if d.isF then (backR ρ1 vs ρ).set v (.dt d) else backR ρ1 vs ρ
    | _ => backR ρ1 vs ρ)
def lcL (G : FG) (T : FT) (E : FE) (own : List Nat) : List D → List D → Rho → Out (List D)
  | [], acc, ρ => .ok acc ρ
  | d :: ds, acc, ρ => match G d ρ with
    | .ok _ ρ1 => (match T ρ1 with
      | .ok true ρ2 => (match E ρ2 with
        | .ok (.val y) ρ3 => if acc.length < sizeLine then lcL G T E own ds (acc ++ [y]) (wipeR ρ3 own) else .no
        | _ => .no)
      | .ok false ρ2 => lcL G T E own ds acc (wipeR ρ2 own)
      | _ => .no)
    | _ => .no
def lcEnd (own : List Nat) (ρ1 : Rho) (o : Out (List D)) : Out R := match o with
  | .ok acc ρ => .ok (.val (.nd (.lst true) acc)) (backR ρ1 own ρ)
  | _ => .no
def fLC (fi : FI) (G : FG) (T : FT) (E : FE) (own : List Nat) : FE := fun ρ => (fi ρ).bind fun items ρ1 => lcEnd own ρ1 (lcL G T E own items [] (wipeR ρ1 own))
def fYes : FT := fun ρ => .ok true ρ
theorem xts_nil : PTs X [] (tT Γ fYes) := PTs.imp pts_nil fun σ H Q ⟨ρ, A, F, e, h⟩ => Go.ok (g := []) h e (Stp.refl.sub plus_nil) ⟨rfl, rfl⟩
theorem xts_one {c : Expr} {T : FT} (h : XT' X Γ c T) : PTs X [c] (tT Γ T) := pts_one h

theorem wipe_at {σ : L2.St} : ∀ {own : List Nat} (j : Nat), (wipe σ own)[j]? = if j ∈ own ∧ j < σ.length then some none else σ[j]?
  | [], j => by simp [wipe]
  | v :: vs, j => by
    unfold wipe
    by_cases hv : v = j
    · subst hv
      by_cases hl : v < σ.length
      · rw [List.getElem?_set_self (by rw [wipe_length]; exact hl), if_pos ⟨List.mem_cons_self, hl⟩]
      · rw [if_neg fun z => hl z.2, List.getElem?_eq_none (by rw [List.length_set, wipe_length]; omega), List.getElem?_eq_none (by omega)]
    · rw [List.getElem?_set_ne hv, wipe_at j]
      have : (j ∈ v :: vs) ↔ j ∈ vs := by simp [Ne.symm hv]
      simp only [this]
theorem wipe_eq {σ σ2 : L2.St} {own : List Nat} (hl : σ2.length = σ.length) (h : ∀ j, j ∉ own → σ2[j]? = (wipe σ own)[j]?) : wipe σ2 own = wipe σ own := by
  apply List.ext_getElem?
  intro j
  rw [wipe_at]
  by_cases hj : j ∈ own
  · rw [wipe_at]
    by_cases hl2 : j < σ.length
    · rw [if_pos ⟨hj, by omega⟩, if_pos ⟨hj, hl2⟩]
    · rw [if_neg fun z => hl2 (by omega), if_neg fun z => hl2 z.2, List.getElem?_eq_none (by omega), List.getElem?_eq_none (by omega)]
  · rw [if_neg fun z => hj z.1]
    exact h j hj
/-- the slots of the block's own names forgotten -/
theorem EnvR.wipe {K : PySem.W.Frag} {A : Nat → Addr} {H : Hp} : ∀ {own : List Nat} {σ : L2.St} {ρ : Rho} {F : Fp}, EnvR K A σ H ρ F → ∃ F', EnvR K A (L2.wipe σ own) H (wipeR ρ own) F' ∧ ∀ b, fsS F' b → fsS F b
  | [], σ, ρ, F, e => ⟨F, e, fun _ q => q⟩
  | v :: vs, σ, ρ, F, e => by
    obtain ⟨F', e', s⟩ := EnvR.wipe (own := vs) e
    have e2 := e'.gone (i := v)
    refine ⟨F'.put v [], ⟨fun j t d h1 h2 => ?_, fun j d h1 => ?_, e2.emp, e2.nd, e2.dj, ?_⟩, fun b q => s b ((Fp.put_sub q).elim id fun z => nomatch z)⟩
    · obtain ⟨u, hu, w⟩ := e2.rep j t d h1 h2
      refine ⟨u, ?_, w⟩
      unfold L2.wipe
      by_cases hj : v = j
      · subst hj
        have h1 : ((wipeR ρ vs).set v Sl.un)[v]? = some t := h1
        rw [List.getElem?_set] at h1
        simp only [if_true] at h1
        split at h1
        · cases h1; cases h2
        · cases h1
      · rw [List.getElem?_set_ne hj]; exact hu
    · unfold L2.wipe
      by_cases hj : v = j
      · subst hj
        have h1 : ((wipeR ρ vs).set v Sl.un)[v]? = some (.io d) := h1
        rw [List.getElem?_set] at h1
        simp only [if_true] at h1
        split at h1 <;> cases h1
      · rw [List.getElem?_set_ne hj]; exact e2.io j d h1
    · unfold L2.wipe wipeR
      rw [List.length_set, List.length_set]
      exact e'.len
/-- .. and what they held ahead, where that is frozen -/
theorem EnvR.back {K : PySem.W.Frag} {A : Nat → Addr} {H H1 : Hp} {σ : L2.St} {ρ1 : Rho} {F1 : Fp} (e1 : EnvR K A σ H1 ρ1 F1) (kf : ∀ b o, H1 b = some o → Fix o → H b = some o) : ∀ {own : List Nat} {ρ : Rho} {F : Fp}, EnvR K A (L2.wipe σ own) H ρ F → EnvR K A σ H (backR ρ1 own ρ) F
  | [], ρ, F, e => e
  | v :: vs, ρ, F, e => by
    -- the slot v is empty
    have hv : ∀ s d, ρ[v]? = some s → s.dat = some d → False := fun s d h1 h2 => by
      obtain ⟨u, hu, w⟩ := e.rep v s d h1 h2
      have hl := (List.getElem?_eq_some_iff.mp h1).1
      rw [e.len, wipe_length] at hl
      rw [wipe_at, if_pos ⟨List.mem_cons_self, hl⟩] at hu
      cases hu
    have e0 : EnvR K A (L2.wipe σ vs) H ρ F := by
      refine ⟨fun j s d h1 h2 => ?_, fun j d h1 => ?_, e.emp, e.nd, e.dj, by rw [e.len, wipe_length, wipe_length]⟩
      · obtain ⟨u, hu, w⟩ := e.rep j s d h1 h2
        refine ⟨u, ?_, w⟩
        by_cases hj : v = j
        · subst hj; exact absurd (hv s d h1 h2) (fun z => z)
        · have hu : ((L2.wipe σ vs).set v none)[j]? = some (some u) := hu
          rwa [List.getElem?_set_ne hj] at hu
      · have hu := e.io j d h1
        by_cases hj : v = j
        · subst hj; exact absurd (hv _ d h1 rfl) (fun z => z)
        · have hu : ((L2.wipe σ vs).set v none)[j]? = some (some (.ref (A j))) := hu
          rwa [List.getElem?_set_ne hj] at hu
    have hF : F v = [] := by
      cases hf : F v with
      | nil => rfl
      | cons a r =>
        obtain ⟨s, d, h1, h2⟩ := e.emp v a (by rw [hf]; exact List.mem_cons_self)
        exact absurd (hv s d h1 h2) (fun z => z)
    have ih := EnvR.back e1 kf e0
    unfold backR
    split
    · rename_i d hd
      split
      · rename_i hf
        obtain ⟨u, hu, w⟩ := e1.rep v _ d hd rfl
        have hl : v < (backR ρ1 vs ρ).length := by
          rw [ih.len, ← e1.len]
          exact (List.getElem?_eq_some_iff.mp hd).1
        have q := ih.put (σ' := σ) (s' := .dt d) (d := d) (i := v) (g := []) hl hu (fun _ _ => rfl) rfl (.fz ((w.isF hf).1.stay kf)) List.nodup_nil (fun a ha => nomatch ha) (fun x z => nomatch z) rfl
        have eF : F.put v [] = F := by
          funext j
          by_cases hj : j = v
          · subst hj; rw [Fp.put_same, hF]
          · rw [Fp.put_ne hj]
        rwa [eF] at q
      · exact ih
    · exact ih
theorem Stp.fixed {H H' : Hp} {S S' : Addr → Prop} (st : Stp H S H' S') (n : ∀ b o, H b = some o → Fix o → ¬ S b) : ∀ b o, H b = some o → Fix o → H' b = some o := fun b o e x => st.1 b o e (n b o e x)

/-- what is so between two turns of a comprehension -/
structure LcAt (K : PySem.W.Frag) (A : Nat → Addr) (σ : L2.St) (own : List Nat) (H0 : Hp) (S0 : Addr → Prop) (D0 : Addr) (H : Hp) (ρ : Rho) (F : Fp) (acc : List D) (vs : List V) (fs : List (List Addr)) : Prop where
  env : EnvR K A (L2.wipe σ own) H ρ F
  at_ : H D0 = some (.lst vs)
  l1 : vs.length = acc.length
  l2 : fs.length = acc.length
  rep : ∀ (i : Nat) v d f, vs[i]? = some v → acc[i]? = some d → fs[i]? = some f → Ow K H v d f
  nd : (D0 :: fs.flatten).Nodup
  dj : ∀ a ∈ D0 :: fs.flatten, ¬ fsS F a
  st : Stp H0 S0 H (plus (fsS F) (D0 :: fs.flatten))
theorem LcAt.trk {K : PySem.W.Frag} {A : Nat → Addr} {σ : L2.St} {own : List Nat} {H0 : Hp} {S0 : Addr → Prop} {D0 : Addr} {H : Hp} {ρ : Rho} {F : Fp} {acc : List D} {vs : List V} {fs : List (List Addr)} (h : LcAt K A σ own H0 S0 D0 H ρ F acc vs fs) :
    ∀ a ∈ D0 :: fs.flatten, ∃ o, H a = some o ∧ Mut (some o) := fun a ha => by
  rcases List.mem_cons.mp ha with rfl | ha
  · exact ⟨_, h.at_, trivial⟩
  · obtain ⟨f, hf, hb⟩ := List.mem_flatten.mp ha
    obtain ⟨i, hi, e⟩ := List.getElem_of_mem hf
    have := h.l1
    have := h.l2
    exact (h.rep i (vs[i]'(by omega)) (acc[i]'(by omega)) f (List.getElem?_eq_getElem _) (List.getElem?_eq_getElem _) (by rw [← e]; exact List.getElem?_eq_getElem hi)).mut a hb
/-- .. over a step that doesn't touch the new list -/
theorem LcAt.step {K : PySem.W.Frag} {A : Nat → Addr} {σ : L2.St} {own : List Nat} {H0 : Hp} {S0 : Addr → Prop} {D0 : Addr} {H H2 : Hp} {ρ : Rho} {F F2 : Fp} {g : List Addr} {acc : List D} {vs : List V} {fs : List (List Addr)}
    (h : LcAt K A σ own H0 S0 D0 H ρ F acc vs fs) (st : Stp H (fsS F) H2 (plus (fsS F2) g)) : H2 D0 = some (.lst vs) ∧ (∀ (i : Nat) v d f, vs[i]? = some v → acc[i]? = some d → fs[i]? = some f → Ow K H2 v d f) ∧
      (∀ a ∈ D0 :: fs.flatten, ¬ fsS F2 a ∧ a ∉ g) ∧ Stp H0 S0 H2 (plus (fsS F2) (D0 :: fs.flatten ++ g)) := by
  have kp : ∀ b o, H b = some o → (Fix o ∨ b ∈ D0 :: fs.flatten) → H2 b = some o := fun b o e z => st.1 b o e (z.elim (fun z => h.env.notFix e z) fun z => h.dj b z)
  refine ⟨kp _ _ h.at_ (.inr List.mem_cons_self), fun i v d f e1 e2 e3 => (h.rep i v d f e1 e2 e3).stay fun b o e z => kp b o e (z.imp id fun z => List.mem_cons_of_mem _ (mem_flat e3 z)), fun a ha => ?_, h.st.trans (st.frame.sub fun b q => ?_)⟩
  · obtain ⟨o, eo, _⟩ := h.trk a ha
    refine ⟨fun z => ?_, fun z => ?_⟩
    · rcases st.2 a (.inl z) with q | q
      · rw [eo] at q; cases q
      · exact h.dj a ha q
    · rcases st.2 a (.inr z) with q | q
      · rw [eo] at q; cases q
      · exact h.dj a ha q
  · rcases q with q | q
    · exact .inl (.inl q)
    · rcases List.mem_append.mp q with q | q
      · exact .inr q
      · exact .inl (.inr q)
theorem lc_go {dom : List Nat} {fi : FI} {G : FG} {T : FT} {E : FE} {ow : List Nat} (hd : ∀ j ∈ dom, j ∈ ow) (σ : L2.St) (H : Hp) (Q : VK) (h : tE Γ (fLC fi G T E ow) σ H Q) : tLc (tI Γ fi) (tGt Γ.blk G dom) (tT Γ.blk T) (tE Γ.blk E) ow σ H Q := by
  obtain ⟨ρ, A, F, e, h⟩ := h
  refine ⟨ρ, A, F, e, Go.bind h Stp.refl fun items ρ1 J H1 F1 g1 _ e1 st1 q1 h1 D0 nD => ?_⟩
  obtain ⟨iok, rfl⟩ := q1
  obtain ⟨F2, e2, s2⟩ := e1.wipe (own := ow)
  refine ⟨fun i m H' => i ≤ items.length ∧ m = items.length - i ∧ (∀ b o, H1 b = some o → Fix o → H' b = some o) ∧ ∃ ρ' F' acc vs fs, LcAt Γ.K A σ ow H (fsS F) D0 H' ρ' F' acc vs fs ∧ Go Γ A (ResR Γ.K) σ H (fsS F) (lcEnd ow ρ1 (lcL G T E ow (items.drop i) acc ρ')) Q,
    ⟨items.length, Nat.zero_le _, rfl, fun b o q _ => upd_keeps nD b o q, wipeR ρ1 ow, F2, [], [], [], ⟨e2.stay fun b o q _ => upd_keeps nD b o q, upd_same, rfl, rfl, fun i v d f h => (by simp at h), by simp, fun a ha z => ?_, ?_⟩, h1⟩, ?_⟩
  · have : a = D0 := by simpa using ha
    subst this
    obtain ⟨o, eo, _⟩ := e2.mut z
    rw [nD] at eo; cases eo
  · have s3 : Stp H (fsS F) H1 (fsS F2) := st1.sub fun b q => .inl (s2 b q)
    exact (s3.new (g := [D0]) fun b hb => by (have : b = D0 := by simpa using hb); rw [this]; exact nD).trans (Stp.same (upd_keeps nD))
  rintro i m H' ⟨hi', rfl, kf, ρ', F', acc, vs, fs, L, h2⟩
  obtain ⟨ok1, ok2⟩ := iok i H' kf
  by_cases hlt : i < items.length
  · refine .inr ⟨(ok1 items[i] (List.getElem?_eq_getElem hlt)).1, fun H'' => i + 1 ≤ items.length ∧ (∀ b o, H1 b = some o → Fix o → H'' b = some o) ∧ ∃ ρ' F' acc vs fs, LcAt Γ.K A σ ow H (fsS F) D0 H'' ρ' F' acc vs fs ∧ Go Γ A (ResR Γ.K) σ H (fsS F) (lcEnd ow ρ1 (lcL G T E ow (items.drop (i + 1)) acc ρ')) Q,
      fun H'' ⟨a, b, c⟩ => ⟨_, by omega, a, rfl, b, c⟩, fun x H3 y => ?_⟩
    obtain ⟨k3, w3⟩ := (ok1 items[i] (List.getElem?_eq_getElem hlt)).2 x H3 y
    rw [List.drop_eq_getElem_cons hlt] at h2
    unfold lcL at h2
    have e3 := L.env.stay fun b o q _ => k3 b o q
    refine ⟨ρ', A, F', items[i], [], e3, .fz w3, List.nodup_nil, (fun a ha => nomatch ha), ?_⟩
    have s3 : Stp H' (fsS F') H3 (fsS F') := Stp.same k3
    cases hG : G items[i] ρ' with
    | no => rw [hG] at h2; exact h2
    | err c fs ρ4 => rw [hG] at h2; exact h2
    | ok u ρ4 =>
      rw [hG] at h2
      dsimp only at h2
      intro σ4 H4 F4 e4 st4 dm
      have hw : L2.wipe σ4 ow = L2.wipe σ ow := wipe_eq (by rw [dm.1, wipe_length]) fun j hj => dm.2 j fun z => hj (hd j z)
      refine ⟨hw, ρ4, A, F4, e4, ?_⟩
      have s4 : Stp H' (fsS F') H4 (fsS F4) := s3.trans ((st4.weak fun b q => plus_nil b q))
      cases hT : T ρ4 with
      | no => rw [hT] at h2; exact False.elim h2
      | err c fs ρ5 => rw [hT] at h2; exact False.elim h2
      | ok b ρ5 =>
        rw [hT] at h2
        intro b' H5 F5 g5 e5 st5 q5
        obtain ⟨rfl, rfl⟩ := q5
        have s5 : Stp H' (fsS F') H5 (fsS F5) := s4.trans (st5.sub fun b q => .inl q)
        cases b with
        | false =>
          rw [if_neg Bool.false_ne_true]
          dsimp only at h2
          obtain ⟨a1, a2, a3, a4⟩ := L.step (g := []) (s5.sub plus_nil)
          obtain ⟨F6, e6, s6⟩ := e5.wipe (own := ow)
          rw [hw] at e6
          refine ⟨hlt, fun b o q x => s5.fix L.env b o (kf b o q x) x, _, F6, acc, vs, fs, ⟨e6, a1, L.l1, L.l2, a2, L.nd, fun a ha z => (a3 a ha).1 (s6 a z), a4.sub fun b q => ?_⟩, h2⟩
          rcases q with q | q
          · exact .inl (s6 b q)
          · exact .inr (by simpa using q)
        | true =>
          rw [if_pos rfl]
          dsimp only at h2
          refine ⟨ρ5, A, F5, e5, ?_⟩
          cases hE : E ρ5 with
          | no => rw [hE] at h2; exact False.elim h2
          | err c fs ρ6 => rw [hE] at h2; exact False.elim h2
          | ok r ρ6 =>
            rw [hE] at h2
            cases r with
            | bor k => exact False.elim h2
            | val y =>
              intro yv H6 F6 g6 e6 st6 q6
              dsimp only at h2
              split at h2
              · rename_i hsz
                obtain ⟨wy, ndy, djy⟩ := q6
                have s6 : Stp H' (fsS F') H6 (plus (fsS F6) g6) := s5.trans st6
                obtain ⟨a1, a2, a3, a4⟩ := L.step s6
                obtain ⟨F7, e7, s7⟩ := e6.wipe (own := ow)
                rw [hw] at e7
                refine ⟨vs, a1, by rw [L.l1]; exact hsz, hlt, fun b o q x => ?_, _, F7, acc ++ [y], vs ++ [yv], fs ++ [g6], ⟨?_, upd_same, by simp [L.l1], by simp [L.l2], fun i v d f h1 h2 h3 => ?_, ?_, fun a ha z => ?_, ?_⟩, h2⟩
                · have q' := s6.fix L.env b o (kf b o q x) x
                  rw [upd_ne fun z => ?_]
                  · exact q'
                  · subst z; rw [a1] at q'; cases q'; exact x
                · refine e7.stay fun b o q z => ?_
                  rw [upd_ne fun z' => ?_]
                  · exact q
                  · subst z'
                    rcases z with z | z
                    · rw [a1] at q; cases q; exact z
                    · exact (a3 b List.mem_cons_self).1 (s7 b z)
                · have keep : ∀ {v d f}, Ow Γ.K H6 v d f → D0 ∉ f → Ow Γ.K (upd H6 D0 (.lst (vs ++ [yv]))) v d f := fun {v d f} w n => w.stay fun b o q z => by
                    rw [upd_ne fun z' => ?_]
                    · exact q
                    · subst z'
                      rcases z with z | z
                      · rw [a1] at q; cases q; exact z
                      · exact n z
                  by_cases hi : i < vs.length
                  · rw [List.getElem?_append_left hi] at h1
                    rw [List.getElem?_append_left (by rw [← L.l1]; exact hi)] at h2
                    rw [List.getElem?_append_left (by rw [L.l2, ← L.l1]; exact hi)] at h3
                    exact keep (a2 i v d f h1 h2 h3) fun z => (List.nodup_cons.mp L.nd).1 (mem_flat h3 z)
                  · have hii : i = vs.length := by
                      have := (List.getElem?_eq_some_iff.mp h1).1
                      simp at this; omega
                    subst hii
                    rw [List.getElem?_append_right (Nat.le_refl _), Nat.sub_self] at h1
                    rw [L.l1, List.getElem?_append_right (Nat.le_refl _), Nat.sub_self] at h2
                    rw [L.l1, ← L.l2, List.getElem?_append_right (Nat.le_refl _), Nat.sub_self] at h3
                    cases h1; cases h2; cases h3
                    exact keep wy (a3 D0 List.mem_cons_self).2
                · rw [List.flatten_append]
                  simp only [List.flatten_cons, List.flatten_nil, List.append_nil]
                  rw [← List.cons_append]
                  refine List.nodup_append.mpr ⟨L.nd, ndy, fun a ha b hb z => ?_⟩
                  subst z
                  exact (a3 a ha).2 hb
                · rw [List.flatten_append] at ha
                  simp only [List.flatten_cons, List.flatten_nil, List.append_nil] at ha
                  rw [← List.cons_append] at ha
                  rcases List.mem_append.mp ha with ha | ha
                  · exact (a3 a ha).1 (s7 a z)
                  · exact djy a ha (s7 a z)
                · rw [List.flatten_append]
                  simp only [List.flatten_cons, List.flatten_nil, List.append_nil]
                  rw [← List.cons_append]
                  have sU : Stp H6 (plus (fsS F6) (D0 :: fs.flatten ++ g6)) (upd H6 D0 (.lst (vs ++ [yv]))) (plus (fsS F6) (D0 :: fs.flatten ++ g6)) := by
                    refine ⟨fun b o q n => ?_, fun b q => .inr q⟩
                    rw [upd_ne fun z => ?_]
                    · exact q
                    · subst z; exact n (.inr (by simp))
                  exact (a4.trans sU).sub fun b q => q.imp (s7 b) id
              · exact False.elim h2
  · have hie : i = items.length := by omega
    subst hie
    rw [List.drop_length] at h2
    refine .inl ⟨ok2 (Nat.le_refl _), ?_⟩
    have h2 : Go Γ A (ResR Γ.K) σ H (fsS F) (.ok (.val (.nd (.lst true) acc)) (backR ρ1 ow ρ')) Q := h2
    exact Go.ok (g := D0 :: fs.flatten) h2 (EnvR.back e1 kf L.env) L.st ⟨.nd (k := .lst true) L.at_ L.l1 L.l2 L.rep, L.nd, L.dj⟩
theorem x_lc {elt tg iter : Expr} {ifs : List Expr} {scope : Scope} {own : List (Str × Nat)} {dom : List Nat} {pos : Pos} {fi : FI} {G : FG} {T : FT} {E : FE} (hK : Γ.K = X.K) (hc : X.calm = true) (hN : X.N.Nodup) (hi : XI' X Γ tg iter fi) (ok : BlkOk X.N X.env.scope scope own)
    (hg : ∀ (s : Shared) (H : Hp) (C : Addr) (cl : List (Str × Addr)) (fp : List Addr), XG' (X.blk s H scope (compEnvC scope cl C X.env) fp) Γ.blk tg G dom) (ht : ∀ (s : Shared) (H : Hp) (C : Addr) (cl : List (Str × Addr)) (fp : List Addr), PTs (X.blk s H scope (compEnvC scope cl C X.env) fp) ifs (tT Γ.blk T))
    (he : ∀ (s : Shared) (H : Hp) (C : Addr) (cl : List (Str × Addr)) (fp : List Addr), XE' (X.blk s H scope (compEnvC scope cl C X.env) fp) Γ.blk elt E) (hd : ∀ j ∈ dom, j ∈ own.map (·.2)) (hs : ∀ x, foldedSetIterable iter X.env x = pure x := by intro _; rfl) :
    XE' X Γ (.ListComp elt [⟨tg, iter, ifs, 0⟩] scope pos) (fLC fi G T E (own.map (·.2))) :=
  PE.imp (pe_lc hc hN hi ok hg ht he hs) (lc_go hd)
theorem s_setLc {i : Nat} {y : Str} {py : Pos} {elt tg iter : Expr} {ifs : List Expr} {scope : Scope} {own : List (Str × Nat)} {dom : List Nat} {pos spos : Pos} {fi : FI} {G : FG} {T : FT} {E : FE} (hc : X.calm = true) (hN : X.N.Nodup) (hy : X.N[i]? = some y) (hyl : X.env.scope.names.lookup y = some .local)
    (hi : XI' X Γ tg iter fi) (ok : BlkOk X.N X.env.scope scope own)
    (hg : ∀ (s : Shared) (H : Hp) (C : Addr) (cl : List (Str × Addr)) (fp : List Addr), XG' (X.blk s H scope (compEnvC scope cl C X.env) fp) Γ.blk tg G dom) (ht : ∀ (s : Shared) (H : Hp) (C : Addr) (cl : List (Str × Addr)) (fp : List Addr), PTs (X.blk s H scope (compEnvC scope cl C X.env) fp) ifs (tT Γ.blk T))
    (he : ∀ (s : Shared) (H : Hp) (C : Addr) (cl : List (Str × Addr)) (fp : List Addr), XE' (X.blk s H scope (compEnvC scope cl C X.env) fp) Γ.blk elt E) (hd : ∀ j ∈ dom, j ∈ own.map (·.2))
    (hsw : swapsWith (.ListComp elt [⟨tg, iter, ifs, 0⟩] scope pos) (some (.Name y py)) spos.line X.env = pure true := by rfl) (hs : ∀ x, foldedSetIterable iter X.env x = pure x := by intro _; rfl) :
    XS' X Γ (.Assign [.Name y py] (.ListComp elt [⟨tg, iter, ifs, 0⟩] scope pos) spos) (fAsg (fLC fi G T E (own.map (·.2))) (gSet i)) := by
  refine PS.imp (ps_setLc hc hN hy hyl hsw hi ok hg ht he hs) fun D σ H h => ?_
  obtain ⟨ρ, A, F, e, h⟩ := h
  refine lc_go hd σ H _ ⟨ρ, A, F, e, Go.bindS h Stp.refl fun r ρ1 v H1 F1 g1 _ e1 st1 q1 h1 => ?_⟩
  cases r with
  | bor i => exact False.elim h1
  | val d => exact gName_of (Γ := Γ) ⟨ρ1, A, F1, d, g1, e1, q1.1, q1.2.1, q1.2.2, GoG.of h1 st1⟩
theorem pt_ifx {c a b : Expr} {tc ta tb : TT} {pos : Pos} (hc : PT X c tc) (ha : PT X a ta) (hb : PT X b tb) : PT X (.IfExp c a b pos) (fun σ H Q => tc σ H fun k H1 => if k = true then ta σ H1 Q else tb σ H1 Q) := by
  refine ⟨fun pins s σ H Q I h => ?_⟩
  show wpAny _ _ (isTrue c X.env (eval c X.env) >>= fun k => if k then isTrue a X.env (eval a X.env) else isTrue b X.env (eval b X.env)) _ _ s
  refine wpAny_bind (thn (hc.run pins s σ H _ I h) fun k s1 ⟨H1, I1, q1⟩ => ?_)
  cases k with
  | true => exact ha.run pins s1 σ H1 Q I1 q1
  | false => exact hb.run pins s1 σ H1 Q I1 q1
def ftIf (t f g : FT) : FT := fun ρ => (t ρ).bind fun b ρ1 => if b then f ρ1 else g ρ1
theorem xt_if {c a b : Expr} {t f g : FT} {pos : Pos} (hc : XT' X Γ c t) (ha : XT' X Γ a f) (hb : XT' X Γ b g) : XT' X Γ (.IfExp c a b pos) (ftIf t f g) := by
  refine PT.imp (pt_ifx hc ha hb) fun σ H Q h => tT_bind (Γ := Γ) (f := t) (k := fun b ρ1 => if b then f ρ1 else g ρ1) h fun b A S H1 ρ1 F1 e1 st h1 => ?_
  cases b with
  | true => exact ⟨ρ1, A, F1, e1, h1.shift st⟩
  | false => exact ⟨ρ1, A, F1, e1, h1.shift st⟩
end
end EE

/-! layer E, part H: what the operators and the built-in functions make of data -/
namespace EE
open PySem PySem.Spec
open PyProof.Rows hiding St
open L2

/-! ### equality -/
def kEq : Kd → Kd → Bool
  | .tup, .tup => true
  | .lst _, .lst _ => true
  | _, _ => false
mutual
/-- x == y -/
def D.eqb : D → D → Bool
  | .non, .non => true
  | .bl a, .bl b => a == b
  | .bl a, .int j => (if a then 1 else 0) == j
  | .int i, .bl b => i == (if b then 1 else 0)
  | .int i, .int j => i == j
  | .str x, .str y => x == y
  | .nd k xs, .nd k' ys => kEq k k' && D.eqbL xs ys
  | _, _ => false
def D.eqbL : List D → List D → Bool
  | [], [] => true
  | x :: xs, y :: ys => D.eqb x y && D.eqbL xs ys
  | _, _ => false
end
mutual
def toPy : D → PyData
  | .non => .none
  | .bl b => .bool b
  | .int i => .int i
  | .str x => .str x
  | .nd .tup xs => .tuple (toPyL xs)
  | .nd (.lst _) xs => .list (toPyL xs)
  | .nd (.dic _ _) _ => .dict []
def toPyL : List D → List PyData
  | [] => []
  | x :: xs => toPy x :: toPyL xs
end
theorem toPyL_map (xs : List D) : toPyL xs = xs.map toPy := by
  induction xs with
  | nil => rfl
  | cons x xs ih => simp [toPyL, ih]
def kOk : Kd → Bool
  | .tup => true
  | .lst _ => true
  | _ => false
/-- data that == takes: at most so deep -/
def D.ok : Nat → D → Bool
  | n + 1, .nd k xs => kOk k && xs.all (D.ok n)
  | 0, .nd _ _ => false
  | _, .str x => PyData.strOk x
  | _, _ => true
theorem D.ok_mono : ∀ {n m : Nat} {d : D}, D.ok n d = true → n ≤ m → D.ok m d = true
  | 0, m, .nd _ _, h, _ => by simp [D.ok] at h
  | n + 1, 0, .nd _ _, _, hm => absurd hm (by omega)
  | n + 1, m + 1, .nd k xs, h, hm => by
    simp only [D.ok, Bool.and_eq_true, List.all_eq_true] at h ⊢
    exact ⟨h.1, fun x hx => D.ok_mono (h.2 x hx) (by omega)⟩
  | n, m, .non, _, _ => by cases m <;> rfl
  | n, m, .bl _, _, _ => by cases m <;> rfl
  | n, m, .int _, _, _ => by cases m <;> rfl
  | n, m, .str x, h, _ => by
    have h : PyData.strOk x = true := by cases n <;> exact h
    cases m <;> exact h
mutual
theorem eqv_eqb : ∀ (x y : D), D.ok 1000 x = true ∨ True → (∀ n, D.ok n x = true → D.ok n y = true → PyData.eqv (toPy x) (toPy y) = D.eqb x y)
  | .non, y, _, n, _, hy => by
    cases y with
    | nd k ys => cases n with
      | zero => simp [D.ok] at hy
      | succ n => cases k <;> simp_all [D.ok, kOk, toPy, PyData.eqv, D.eqb]
    | _ => rfl
  | .bl a, y, _, n, _, hy => by
    cases y with
    | nd k ys => cases n with
      | zero => simp [D.ok] at hy
      | succ n => cases k <;> simp_all [D.ok, kOk, toPy, PyData.eqv, D.eqb]
    | _ => rfl
  | .int a, y, _, n, _, hy => by
    cases y with
    | nd k ys => cases n with
      | zero => simp [D.ok] at hy
      | succ n => cases k <;> simp_all [D.ok, kOk, toPy, PyData.eqv, D.eqb]
    | _ => rfl
  | .str a, y, _, n, _, hy => by
    cases y with
    | nd k ys => cases n with
      | zero => simp [D.ok] at hy
      | succ n => cases k <;> simp_all [D.ok, kOk, toPy, PyData.eqv, D.eqb]
    | _ => rfl
  | .nd k xs, y, _, n, hx, hy => by
    cases n with
    | zero => simp [D.ok] at hx
    | succ n =>
      cases y with
      | nd k' ys =>
        simp only [D.ok, Bool.and_eq_true, List.all_eq_true] at hx hy
        have ih := eqv_eqbL xs ys n hx.2 hy.2
        cases k <;> cases k' <;> simp_all [kOk, toPy, PyData.eqv, D.eqb, kEq]
      | _ =>
        simp only [D.ok, Bool.and_eq_true] at hx
        cases k <;> simp_all [kOk, toPy, PyData.eqv, D.eqb]
theorem eqv_eqbL : ∀ (xs ys : List D) (n : Nat), (∀ x ∈ xs, D.ok n x = true) → (∀ y ∈ ys, D.ok n y = true) → PyData.eqvAll (toPyL xs) (toPyL ys) = D.eqbL xs ys
  | [], [], _, _, _ => rfl
  | [], _ :: _, _, _, _ => rfl
  | _ :: _, [], _, _, _ => rfl
  | x :: xs, y :: ys, n, hx, hy => by
    show (PyData.eqv (toPy x) (toPy y) && PyData.eqvAll (toPyL xs) (toPyL ys)) = (D.eqb x y && D.eqbL xs ys)
    rw [eqv_eqb x y (.inr trivial) n (hx x List.mem_cons_self) (hy y List.mem_cons_self), eqv_eqbL xs ys n (fun z hz => hx z (List.mem_cons_of_mem _ hz)) (fun z hz => hy z (List.mem_cons_of_mem _ hz))]
end
mutual
theorem canLay_toPy : ∀ (d : D) (n : Nat), D.ok n d = true → (toPy d).canLay0 = true ∧ (toPy d).depth ≤ n
  | .non, n, _ => ⟨rfl, Nat.zero_le _⟩
  | .bl _, n, _ => ⟨rfl, Nat.zero_le _⟩
  | .int _, n, _ => ⟨rfl, Nat.zero_le _⟩
  | .str x, n, h => ⟨by cases n <;> exact h, Nat.zero_le _⟩
  | .nd k xs, n, h => by
    cases n with
    | zero => simp [D.ok] at h
    | succ n =>
      simp only [D.ok, Bool.and_eq_true, List.all_eq_true] at h
      obtain ⟨h1, h2⟩ := canLay_toPyL xs n h.2
      cases k with
      | tup => exact ⟨h1, Nat.succ_le_succ h2⟩
      | lst o => exact ⟨h1, Nat.succ_le_succ h2⟩
      | dic o ks => cases h.1
theorem canLay_toPyL : ∀ (xs : List D) (n : Nat), (∀ x ∈ xs, D.ok n x = true) → PyData.canLayAll0 (toPyL xs) = true ∧ PyData.depthAll (toPyL xs) ≤ n
  | [], n, _ => ⟨rfl, Nat.zero_le _⟩
  | x :: xs, n, h => by
    obtain ⟨h1, h2⟩ := canLay_toPy x n (h x List.mem_cons_self)
    obtain ⟨h3, h4⟩ := canLay_toPyL xs n fun z hz => h z (List.mem_cons_of_mem _ hz)
    refine ⟨?_, ?_⟩
    · show ((toPy x).canLay0 && PyData.canLayAll0 (toPyL xs)) = true
      rw [h1, h3]; rfl
    · show max (toPy x).depth (PyData.depthAll (toPyL xs)) ≤ n
      omega
end
theorem shaped_toPy {d : D} (h : D.ok 64 d = true) : SeqAt.shaped (toPy d) = true := by
  obtain ⟨h1, h2⟩ := canLay_toPy d 64 h
  show ((toPy d).canLay0 && decide ((toPy d).depth ≤ 64)) = true
  rw [h1, decide_eq_true h2]; rfl

section
variable {K : PySem.W.Frag} {H : Hp}
/-- a list, whatever its mark -/
theorem Ow.lst {v : V} {b : Bool} {xs : List D} {g : List Addr} (w : Ow K H v (.nd (.lst b) xs) g) : ∃ a vs, v = .ref a ∧ SqL K H a vs ∧ vs.length = xs.length ∧ ∀ (i : Nat) v d, vs[i]? = some v → xs[i]? = some d → ∃ g', Ow K H v d g' := by
  cases w with
  | fz w =>
    cases w with
    | @nd a _ vs _ h1 h2 h3 =>
      cases b with
      | true => exact False.elim h1
      | false => exact ⟨a, vs, rfl, SqZ.sq h1, h2, fun i v d e1 e2 => ⟨[], .fz (h3 i v d e1 e2)⟩⟩
  | @nd a _ vs _ fs h1 h2 h3 h4 =>
    cases b with
    | true =>
      refine ⟨a, vs, rfl, SqL.of h1, h2, fun i v d e1 e2 => ?_⟩
      have := (List.getElem?_eq_some_iff.mp e2).1
      exact ⟨_, h4 i v d (fs[i]'(by omega)) e1 e2 (List.getElem?_eq_getElem _)⟩
    | false => exact False.elim h1
theorem Ow.tpl {v : V} {xs : List D} {g : List Addr} (w : Ow K H v (.nd .tup xs) g) : ∃ a vs, v = .ref a ∧ SqT K H a vs ∧ vs.length = xs.length ∧ ∀ (i : Nat) v d, vs[i]? = some v → xs[i]? = some d → ∃ g', Ow K H v d g' := by
  cases w with
  | fz w =>
    cases w with
    | @nd a _ vs _ h1 h2 h3 => exact ⟨a, vs, rfl, h1, h2, fun i v d e1 e2 => ⟨[], .fz (h3 i v d e1 e2)⟩⟩
  | @nd a _ vs _ fs h1 h2 h3 h4 => exact False.elim h1
  | @tup a vs _ fs h1 h2 h3 h4 =>
    refine ⟨a, vs, rfl, h1, h2, fun i v d e1 e2 => ?_⟩
    have := (List.getElem?_eq_some_iff.mp e2).1
    exact ⟨_, h4 i v d (fs[i]'(by omega)) e1 e2 (List.getElem?_eq_getElem _)⟩
mutual
theorem Ow.dp : ∀ (d : D) (n : Nat) (v : V) (g : List Addr), Ow K H v d g → D.ok n d = true → Dp K H v (toPy d)
  | .non, n, v, g, w, _ => by rw [w.non]; exact .non
  | .bl b, n, v, g, w, _ => by rw [w.bl]; exact .bl b
  | .int i, n, v, g, w, _ => by rw [w.int]; exact .int i
  | .str x, n, v, g, w, _ => by rw [w.str]; exact .str x
  | .nd k xs, n, v, g, w, h => by
    cases n with
    | zero => simp [D.ok] at h
    | succ n =>
      simp only [D.ok, Bool.and_eq_true, List.all_eq_true] at h
      cases k with
      | tup =>
        obtain ⟨a, vs, rfl, h1, h2, h3⟩ := w.tpl
        exact .tup h1 (Ow.dpL xs n vs h2 h3 h.2)
      | lst o =>
        obtain ⟨a, vs, rfl, h1, h2, h3⟩ := w.lst
        exact .lst h1 (Ow.dpL xs n vs h2 h3 h.2)
      | dic o ks => cases h.1
theorem Ow.dpL : ∀ (xs : List D) (n : Nat) (vs : List V), vs.length = xs.length → (∀ (i : Nat) v d, vs[i]? = some v → xs[i]? = some d → ∃ g', Ow K H v d g') → (∀ x ∈ xs, D.ok n x = true) → DpAll K H vs (toPyL xs)
  | [], n, [], _, _, _ => .nil
  | x :: xs, n, [], hl, _, _ => by cases hl
  | [], n, v :: vs, hl, _, _ => by cases hl
  | x :: xs, n, v :: vs, hl, c, h => by
    obtain ⟨g', w⟩ := c 0 v x rfl rfl
    exact .cons (Ow.dp x n v g' w (h x List.mem_cons_self)) (Ow.dpL xs n vs (by simpa using hl) (fun i v d e1 e2 => c (i + 1) v d (by simpa using e1) (by simpa using e2)) fun z hz => h z (List.mem_cons_of_mem _ hz))
end
end

/-! ### operators on ints -/
def s2I (f : Int → Int → Option D) (x y : D) : Option D := match x, y with
  | .int i, .int j => f i j
  | _, _ => none
theorem rSem2_int {K : PySem.W.Frag} {f : Int → Int → Option D} {v w : V} {H : Hp} {Q : VK} (h : rSem2 K (s2I f) v w H Q) : ∃ i j z, v = .int i ∧ w = .int j ∧ f i j = some z ∧ PR K H z Q := by
  obtain ⟨x, y, z, g1, g2, w1, w2, hz, q⟩ := h
  unfold s2I at hz
  split at hz
  · exact ⟨_, _, z, w1.int, w2.int, hz, q⟩
  · cases hz
section
variable {K : PySem.W.Frag}
def sSub : D → D → Option D := s2I fun i j => some (.int (i - j))
theorem r_sub (v w : V) (H : Hp) (Q : VK) (h : rSem2 K sSub v w H Q) : rI0 (fun i j => .int (i - j)) v w H Q := by
  obtain ⟨i, j, z, rfl, rfl, hz, q⟩ := rSem2_int h
  cases hz
  exact ⟨i, j, rfl, rfl, q.here (.int _)⟩
noncomputable instance (i j : Int) : Decidable (CMul i j) := Classical.propDecidable _
noncomputable instance (i j : Int) : Decidable (CDiv i j) := Classical.propDecidable _
noncomputable instance (i j : Int) : Decidable (CPow i j) := Classical.propDecidable _
def sMod : D → D → Option D := s2I fun i j => if 0 < j then some (.int (i % j)) else none
theorem r_mod (v w : V) (H : Hp) (Q : VK) (h : rSem2 K sMod v w H Q) : rI (fun _ j => 0 < j) (fun i j => .int (i % j)) v w H Q := by
  obtain ⟨i, j, z, rfl, rfl, hz, q⟩ := rSem2_int h
  split at hz
  · rename_i hj
    cases hz
    exact ⟨i, j, rfl, rfl, hj, q.here (.int _)⟩
  · cases hz
noncomputable def sDiv : D → D → Option D := s2I fun i j => if CDiv i j then some (.int (i / j)) else none
theorem r_div (v w : V) (H : Hp) (Q : VK) (h : rSem2 K sDiv v w H Q) : rI CDiv (fun i j => .int (i / j)) v w H Q := by
  obtain ⟨i, j, z, rfl, rfl, hz, q⟩ := rSem2_int h
  split at hz
  · rename_i hj
    cases hz
    exact ⟨i, j, rfl, rfl, hj, q.here (.int _)⟩
  · cases hz
noncomputable def sPow : D → D → Option D := s2I fun i j => if CPow i j then some (.int (i ^ j.toNat)) else none
theorem r_pow (v w : V) (H : Hp) (Q : VK) (h : rSem2 K sPow v w H Q) : rI CPow (fun i j => .int (i ^ j.toNat)) v w H Q := by
  obtain ⟨i, j, z, rfl, rfl, hz, q⟩ := rSem2_int h
  split at hz
  · rename_i hj
    cases hz
    exact ⟨i, j, rfl, rfl, hj, q.here (.int _)⟩
  · cases hz
noncomputable def sShl : D → D → Option D := s2I fun i j => if CPow i j then some (.int (i * 2 ^ j.toNat)) else none
theorem r_shl (v w : V) (H : Hp) (Q : VK) (h : rSem2 K sShl v w H Q) : rI CPow (fun i j => .int (i * 2 ^ j.toNat)) v w H Q := by
  obtain ⟨i, j, z, rfl, rfl, hz, q⟩ := rSem2_int h
  split at hz
  · rename_i hj
    cases hz
    exact ⟨i, j, rfl, rfl, hj, q.here (.int _)⟩
  · cases hz
def sShr : D → D → Option D := s2I fun i j => if 0 ≤ j then some (.int (i / 2 ^ j.toNat)) else none
theorem r_shr (v w : V) (H : Hp) (Q : VK) (h : rSem2 K sShr v w H Q) : rI (fun _ j => 0 ≤ j) (fun i j => .int (i / 2 ^ j.toNat)) v w H Q := by
  obtain ⟨i, j, z, rfl, rfl, hz, q⟩ := rSem2_int h
  split at hz
  · rename_i hj
    cases hz
    exact ⟨i, j, rfl, rfl, hj, q.here (.int _)⟩
  · cases hz
def sAnd : D → D → Option D := s2I fun i j => some (.int (Builtin.bitAnd i j))
theorem r_and (v w : V) (H : Hp) (Q : VK) (h : rSem2 K sAnd v w H Q) : rI0 (fun i j => .int (Builtin.bitAnd i j)) v w H Q := by
  obtain ⟨i, j, z, rfl, rfl, hz, q⟩ := rSem2_int h
  cases hz
  exact ⟨i, j, rfl, rfl, q.here (.int _)⟩
/-! ### sums -/
def sAdd (x y : D) : Option D := match x, y with
  | .int i, .int j => some (.int (i + j))
  | .nd .tup xs, .nd .tup ys => if xs.length + ys.length ≤ sizeLine ∧ D.isFL xs = true ∧ D.isFL ys = true then some (.nd .tup (xs ++ ys)) else none
  | .nd (.lst _) xs, .nd (.lst _) ys => if xs.length + ys.length ≤ sizeLine ∧ D.isFL xs = true ∧ D.isFL ys = true then some (.nd (.lst true) (xs ++ ys)) else none
  | .str a, .str b => if a.length + b.length ≤ sizeLine then some (.str (a ++ b)) else none
  | _, _ => none
/-- two lists that are read -/
def rCatL (K : PySem.W.Frag) : R2 := fun x y H Q => ∃ a b xs ys, x = .ref a ∧ y = .ref b ∧ SqL K H a xs ∧ SqL K H b ys ∧ xs.length + ys.length ≤ sizeLine ∧ ∀ p, H p = none → Q (.ref p) (upd H p (.lst (xs ++ ys)))
theorem op_catL {X : Cx} : OpR X (binaryOp .Add) (rCatL X.K) := by
  intro pins s σ H x y v u Q I rx ry h
  obtain ⟨a, b, xs, ys, rfl, rfl, ha, hb, hz, q⟩ := h
  cases rx
  cases ry
  obtain ⟨its, r, p, _⟩ := I.list ha
  obtain ⟨its2, r2, p2, _⟩ := I.list hb
  obtain ⟨⟨cls, dd, data, sl⟩, n, ho, hc, hdn, hd⟩ := p
  obtain ⟨⟨cls2, dd2, data2, sl2⟩, n2, ho2, hc2, hdn2, hd2⟩ := p2
  simp only at hc hd hc2 hd2
  subst hc hd hc2 hd2
  have e : its.toArray ++ its2.toArray = (its ++ its2).toArray := by simp
  have l1 := r.length
  have l2 := r2.length
  refine concat_meets ⟨_, ho, rfl⟩ ⟨_, ho2, rfl⟩ noFill_list_add seq_list_add PySem.F.slot_list_add PySem.F.entry_list_add (PySem.F.args_list_add_2 _ _) (list_addW a b its.toArray its2.toArray n n2 dd dd2 sl sl2 (by simp; omega)) ⟨ho, ho2, ?_⟩
  rw [e]
  exact ⟨.ref _, _, I.lnew (t' := s.toks) (r.append r2) (by rw [List.length_append]; omega), rfl, q _ I.fresh⟩
def rAdd (K : PySem.W.Frag) : R2 := fun x y H Q => rI0 (fun i j => .int (i + j)) x y H Q ∨ rCatA K x y H Q ∨ rCatL K x y H Q ∨ (∃ i j, x = .str i ∧ y = .str j ∧ i.length + j.length ≤ sizeLine ∧ Q (.str (i ++ j)) H)
theorem op_addA {X : Cx} : OpR X (binaryOp .Add) (rAdd X.K) := op_add.or (op_catA.or (op_catL.or op_add_str))
theorem kids_fz {H : Hp} {vs : List V} {xs : List D} (h : ∀ (i : Nat) v d, vs[i]? = some v → xs[i]? = some d → ∃ g', Ow K H v d g') (hf : D.isFL xs = true) : ∀ (i : Nat) v d, vs[i]? = some v → xs[i]? = some d → Fz K H v d := fun i v d e1 e2 => by
  obtain ⟨g, w⟩ := h i v d e1 e2
  exact (w.isF (D.isFL_iff.mp hf d (List.mem_of_getElem? e2))).1
theorem kids_append {H : Hp} {vs ws : List V} {xs ys : List D} (l : vs.length = xs.length) (h1 : ∀ (i : Nat) v d, vs[i]? = some v → xs[i]? = some d → Fz K H v d) (h2 : ∀ (i : Nat) v d, ws[i]? = some v → ys[i]? = some d → Fz K H v d) :
    ∀ (i : Nat) v d, (vs ++ ws)[i]? = some v → (xs ++ ys)[i]? = some d → Fz K H v d := fun i v d e1 e2 => by
  by_cases hi : i < vs.length
  · rw [List.getElem?_append_left hi] at e1
    rw [List.getElem?_append_left (by omega)] at e2
    exact h1 i v d e1 e2
  · rw [List.getElem?_append_right (by omega)] at e1
    rw [List.getElem?_append_right (by omega), ← l] at e2
    exact h2 _ v d e1 e2
/-- a new list of frozen things -/
theorem PR.newL {H : Hp} {xs : List D} {vs : List V} {Q : VK} {p : Addr} (h : PR K H (.nd (.lst true) xs) Q) (np : H p = none) (l : vs.length = xs.length) (c : ∀ (i : Nat) v d, vs[i]? = some v → xs[i]? = some d → Fz K H v d) : Q (.ref p) (upd H p (.lst vs)) := by
  have k := upd_keeps (o := .lst vs) np
  have w : Ow K (upd H p (.lst vs)) (.ref p) (.nd (.lst true) xs) (p :: (List.replicate xs.length []).flatten) := .nd (k := .lst true) (show OwAt _ p (.lst true) vs from upd_same) l (by simp) fun i v d f e1 e2 e3 => by
    have : f = [] := List.eq_of_mem_replicate (List.mem_of_getElem? e3)
    subst this
    exact .fz ((c i v d e1 e2).stay fun b o e _ => k b o e)
  rw [List.flatten_replicate_nil] at w
  exact h _ _ [p] k w (by simp) fun a ha => by (have : a = p := by simpa using ha); rw [this]; exact np
theorem PR.newT {H : Hp} {xs : List D} {vs : List V} {Q : VK} {p : Addr} (h : PR K H (.nd .tup xs) Q) (np : H p = none) (l : vs.length = xs.length) (c : ∀ (i : Nat) v d, vs[i]? = some v → xs[i]? = some d → Fz K H v d) : Q (.ref p) (upd H p (.tup vs)) := by
  have k := upd_keeps (o := .tup vs) np
  exact h _ _ [] k (.fz (.nd (k := .tup) (SqT.of upd_same) l fun i v d e1 e2 => (c i v d e1 e2).stay fun b o e _ => k b o e)) List.nodup_nil fun a ha => nomatch ha
theorem r_add (v w : V) (H : Hp) (Q : VK) (h : rSem2 K sAdd v w H Q) : rAdd K v w H Q := by
  obtain ⟨x, y, z, g1, g2, w1, w2, hz, q⟩ := h
  unfold sAdd at hz
  split at hz
  · rename_i i j
    cases hz
    exact .inl ⟨i, j, w1.int, w2.int, q.here (.int _)⟩
  · rename_i xs ys
    split at hz
    · rename_i hc
      cases hz
      obtain ⟨a, vs, rfl, h1, h2, h3⟩ := w1.tpl
      obtain ⟨b, ws, rfl, k1, k2, k3⟩ := w2.tpl
      have c1 := kids_fz h3 hc.2.1
      have c2 := kids_fz k3 hc.2.2
      refine .inr (.inl ⟨a, b, vs, ws, rfl, rfl, h1, k1, by omega, fun e => ?_, fun e e' => ?_, fun _ _ p np => ?_⟩)
      · subst e
        have : xs = [] := List.eq_nil_of_length_eq_zero h2.symm
        subst this
        exact q.here (.nd (k := .tup) k1 k2 c2)
      · subst e'
        have : ys = [] := List.eq_nil_of_length_eq_zero k2.symm
        subst this
        rw [List.append_nil] at q
        exact q.here (.nd (k := .tup) h1 h2 c1)
      · exact q.newT np (by simp [h2, k2]) (kids_append h2 c1 c2)
    · cases hz
  · rename_i xs _ ys
    split at hz
    · rename_i hc
      cases hz
      obtain ⟨a, vs, rfl, h1, h2, h3⟩ := w1.lst
      obtain ⟨b, ws, rfl, k1, k2, k3⟩ := w2.lst
      exact .inr (.inr (.inl ⟨a, b, vs, ws, rfl, rfl, h1, k1, by omega, fun p np => q.newL np (by simp [h2, k2]) (kids_append h2 (kids_fz h3 hc.2.1) (kids_fz k3 hc.2.2))⟩))
    · cases hz
  · rename_i a b
    split at hz
    · rename_i hc
      cases hz
      exact .inr (.inr (.inr ⟨a, b, w1.str, w2.str, hc, q.here (.str _)⟩))
    · cases hz
  · cases hz
/-! ### products -/
noncomputable def sMul (x y : D) : Option D := match x, y with
  | .int i, .int j => if CMul i j then some (.int (i * j)) else none
  | _, _ => none
theorem r_mul (v w : V) (H : Hp) (Q : VK) (h : rSem2 K sMul v w H Q) : rI CMul (fun i j => .int (i * j)) v w H Q := by
  obtain ⟨x, y, z, g1, g2, w1, w2, hz, q⟩ := h
  unfold sMul at hz
  split at hz
  · rename_i i j
    split at hz
    · rename_i hc
      cases hz
      exact ⟨i, j, w1.int, w2.int, hc, q.here (.int _)⟩
    · cases hz
  · cases hz
/-! ### comparisons -/
def sLt : D → D → Option D := s2I fun i j => some (.bl (decide (i < j)))
def sLe : D → D → Option D := s2I fun i j => some (.bl (decide (i ≤ j)))
def sGt : D → D → Option D := s2I fun i j => some (.bl (decide (j < i)))
def sGe : D → D → Option D := s2I fun i j => some (.bl (decide (j ≤ i)))
theorem r_lt (v w : V) (H : Hp) (Q : VK) (h : rSem2 K sLt v w H Q) : rI0 (fun i j => .bl (decide (i < j))) v w H Q := by
  obtain ⟨i, j, z, rfl, rfl, hz, q⟩ := rSem2_int h
  cases hz
  exact ⟨i, j, rfl, rfl, q.here (.bl _)⟩
theorem r_le (v w : V) (H : Hp) (Q : VK) (h : rSem2 K sLe v w H Q) : rI0 (fun i j => .bl (decide (i ≤ j))) v w H Q := by
  obtain ⟨i, j, z, rfl, rfl, hz, q⟩ := rSem2_int h
  cases hz
  exact ⟨i, j, rfl, rfl, q.here (.bl _)⟩
theorem r_gt (v w : V) (H : Hp) (Q : VK) (h : rSem2 K sGt v w H Q) : rI0 (fun i j => .bl (decide (j < i))) v w H Q := by
  obtain ⟨i, j, z, rfl, rfl, hz, q⟩ := rSem2_int h
  cases hz
  exact ⟨i, j, rfl, rfl, q.here (.bl _)⟩
theorem r_ge (v w : V) (H : Hp) (Q : VK) (h : rSem2 K sGe v w H Q) : rI0 (fun i j => .bl (decide (j ≤ i))) v w H Q := by
  obtain ⟨i, j, z, rfl, rfl, hz, q⟩ := rSem2_int h
  cases hz
  exact ⟨i, j, rfl, rfl, q.here (.bl _)⟩
def sEq (x y : D) : Option D := if D.ok 64 x = true ∧ D.ok 64 y = true then some (.bl (D.eqb x y)) else none
def sNe (x y : D) : Option D := if D.ok 64 x = true ∧ D.ok 64 y = true then some (.bl (!D.eqb x y)) else none
theorem r_eq (v w : V) (H : Hp) (Q : VK) (h : rSem2 K sEq v w H Q) : rEqD K v w H Q := by
  obtain ⟨x, y, z, g1, g2, w1, w2, hz, q⟩ := h
  unfold sEq at hz
  split at hz
  · rename_i hc
    cases hz
    refine ⟨toPy x, toPy y, w1.dp _ 64 _ _ hc.1, w2.dp _ 64 _ _ hc.2, shaped_toPy hc.1, shaped_toPy hc.2, ?_⟩
    rw [eqv_eqb x y (.inr trivial) 64 hc.1 hc.2]
    exact q.here (.bl _)
  · cases hz
theorem r_ne (v w : V) (H : Hp) (Q : VK) (h : rSem2 K sNe v w H Q) : rNeD K v w H Q := by
  obtain ⟨x, y, z, g1, g2, w1, w2, hz, q⟩ := h
  unfold sNe at hz
  split at hz
  · rename_i hc
    cases hz
    refine ⟨toPy x, toPy y, w1.dp _ 64 _ _ hc.1, w2.dp _ 64 _ _ hc.2, shaped_toPy hc.1, shaped_toPy hc.2, ?_⟩
    rw [eqv_eqb x y (.inr trivial) 64 hc.1 hc.2]
    exact q.here (.bl _)
  · cases hz
/-- x in xs: a list or a tuple -/
def rInA (K : PySem.W.Frag) (neg : Bool) : R2 := fun x y H Q => ∃ d ds, Dp K H x d ∧ (Dp K H y (.list ds) ∨ Dp K H y (.tuple ds)) ∧ SeqAt.shaped d = true ∧ PyData.canLayAll0 ds = true ∧ Q (.bl (if neg then !ds.any fun z => PyData.eqv z d else ds.any fun z => PyData.eqv z d)) H
theorem op_inA {X : Cx} (hu : X.A.units + 65 < cLine) : OpR X (compareOp .In) (rInA X.K false) := by
  intro pins s σ H x y v u Q I rx ry h
  obtain ⟨d, ds, hd, he, sd, se, q⟩ := h
  obtain ⟨as, r1⟩ := Dp.reads I d x v hd rx
  rcases he with he | he
  · obtain ⟨bs, r2⟩ := Dp.reads I (.list ds) y u he ry
    exact SeqAt.in_list_reads r2 r1 se (SeqAt.canLay_of_shaped sd) (room_in_shaped sd hu) ⟨.bl _, H, I, rfl, q⟩
  · obtain ⟨bs, r2⟩ := Dp.reads I (.tuple ds) y u he ry
    exact SeqAt.in_tuple_reads r2 r1 se (SeqAt.canLay_of_shaped sd) (room_in_shaped sd hu) ⟨.bl _, H, I, rfl, q⟩
theorem op_notInA {X : Cx} (hu : X.A.units + 65 < cLine) : OpR X (compareOp .NotIn) (rInA X.K true) := by
  intro pins s σ H x y v u Q I rx ry h
  obtain ⟨d, ds, hd, he, sd, se, q⟩ := h
  obtain ⟨as, r1⟩ := Dp.reads I d x v hd rx
  rcases he with he | he
  · obtain ⟨bs, r2⟩ := Dp.reads I (.list ds) y u he ry
    exact SeqAt.notIn_list_reads r2 r1 se (SeqAt.canLay_of_shaped sd) (room_in_shaped sd hu) ⟨.bl _, H, I, rfl, q⟩
  · obtain ⟨bs, r2⟩ := Dp.reads I (.tuple ds) y u he ry
    exact SeqAt.notIn_tuple_reads r2 r1 se (SeqAt.canLay_of_shaped sd) (room_in_shaped sd hu) ⟨.bl _, H, I, rfl, q⟩
def seqOf (d : D) : Option (List D) := match d with
  | .nd .tup xs => some xs
  | .nd (.lst _) xs => some xs
  | _ => none
def sIn (neg : Bool) (x y : D) : Option D := match seqOf y with
  | some ys => if D.ok 64 x = true ∧ ys.all (D.ok 64) = true then some (.bl (if neg then !ys.any fun z => D.eqb z x else ys.any fun z => D.eqb z x)) else none
  | none => none
theorem r_in (neg : Bool) (v w : V) (H : Hp) (Q : VK) (h : rSem2 K (sIn neg) v w H Q) : rInA K neg v w H Q := by
  obtain ⟨x, y, z, g1, g2, w1, w2, hz, q⟩ := h
  unfold sIn at hz
  split at hz
  · rename_i ys hys
    split at hz
    · rename_i hc
      cases hz
      have hy : ∀ z ∈ ys, D.ok 64 z = true := List.all_eq_true.mp hc.2
      refine ⟨toPy x, toPyL ys, w1.dp _ 64 _ _ hc.1, ?_, shaped_toPy hc.1, (canLay_toPyL ys 64 hy).1, ?_⟩
      · have hD : D.ok 65 y = true := by
          unfold seqOf at hys
          split at hys <;> cases hys
          · show (true && ys.all (D.ok 64)) = true
            rw [hc.2]; rfl
          · show (true && ys.all (D.ok 64)) = true
            rw [hc.2]; rfl
        have dp := w2.dp _ 65 _ _ hD
        unfold seqOf at hys
        split at hys <;> cases hys
        · exact .inr dp
        · exact .inl dp
      · have e : ((toPyL ys).any fun z => PyData.eqv z (toPy x)) = ys.any fun z => D.eqb z x := by
          rw [toPyL_map, List.any_map]
          have hx1 := hc.1
          clear q hys w2 hc
          induction ys with
          | nil => rfl
          | cons z zs ih =>
            have h1 := eqv_eqb z x (.inr trivial) 64 (hy z List.mem_cons_self)
            simp only [List.any_cons, Function.comp]
            rw [h1 hx1, ih fun z hz => hy z (List.mem_cons_of_mem _ hz)]
        rw [e]
        exact q.here (.bl _)
    · cases hz
  · cases hz
/-- is None -/
def D.isN : D → Bool
  | .non => true
  | _ => false
def sIsN (neg : Bool) (x : D) : Option D := some (.bl (if neg = true then !x.isN else x.isN))
theorem Ow.isN {H : Hp} {v : V} {d : D} {g : List Addr} (w : Ow K H v d g) : decide (v = .non) = d.isN := by
  cases w with
  | fz w => cases w <;> rfl
  | nd h1 h2 h3 h4 => rfl
  | tup h1 h2 h3 h4 => rfl
end
section
variable {X : Cx} {Γ : Ct}
theorem x_isN {a : Expr} {f : FE} {j pos pos'} (ha : XE' X Γ a f) : XE' X Γ (.Compare a [.Is] [.Constant .none j pos'] pos) (fOp1 (sIsN false) f) :=
  PE.imp (pe_cmp (pc_isN ha) rfl) (op1_go (r := fun v H Q => Q (.bl (decide (v = .non))) H) fun v H Q ⟨x, z, g, w, hz, q⟩ => by
    cases hz
    rw [w.isN]
    exact PR.here q (.bl _))
theorem x_notN {a : Expr} {f : FE} {j pos pos'} (ha : XE' X Γ a f) : XE' X Γ (.Compare a [.IsNot] [.Constant .none j pos'] pos) (fOp1 (sIsN true) f) :=
  PE.imp (pe_cmp (pc_notN ha) rfl) (op1_go (r := fun v H Q => Q (.bl (!decide (v = .non))) H) fun v H Q ⟨x, z, g, w, hz, q⟩ => by
    cases hz
    rw [w.isN]
    exact PR.here q (.bl _))
theorem xt_isN {a : Expr} {f : FE} {j pos pos'} (ha : XE' X Γ a f) : XT' X Γ (.Compare a [.Is] [.Constant .none j pos'] pos) (fB (fOp1 (sIsN false) f)) :=
  PT.imp (pt_cmp (pc_isN ha) rfl) fun σ H Q h => op1_go (r := fun v H Q => Q (.bl (decide (v = .non))) H) (fun v H Q ⟨x, z, g, w, hz, q⟩ => by
    cases hz
    rw [w.isN]
    exact PR.here q (.bl _)) σ H _ (fB_go σ H Q h)
theorem xt_notN {a : Expr} {f : FE} {j pos pos'} (ha : XE' X Γ a f) : XT' X Γ (.Compare a [.IsNot] [.Constant .none j pos'] pos) (fB (fOp1 (sIsN true) f)) :=
  PT.imp (pt_cmp (pc_notN ha) rfl) fun σ H Q h => op1_go (r := fun v H Q => Q (.bl (!decide (v = .non))) H) (fun v H Q ⟨x, z, g, w, hz, q⟩ => by
    cases hz
    rw [w.isN]
    exact PR.here q (.bl _)) σ H _ (fB_go σ H Q h)
end
/-! ### one int -/
def s1I (f : Int → D) (x : D) : Option D := match x with
  | .int i => some (f i)
  | _ => none
def sNeg : D → Option D := s1I fun i => .int (-i)
theorem r_neg {K : PySem.W.Frag} (v : V) (H : Hp) (Q : VK) (h : rSem1 K sNeg v H Q) : rU (fun i => .int (-i)) v H Q := by
  obtain ⟨x, z, g, w, hz, q⟩ := h
  unfold sNeg s1I at hz
  split at hz
  · rename_i i
    cases hz
    exact ⟨i, w.int, q.here (.int _)⟩
  · cases hz
/-! ### places -/
def sIx (x y : D) : Option D := match seqOf x, y with
  | some xs, .int i => (match atI xs i with
    | some d => if d.isF = true then some d else none
    | none => none)
  | _, _ => none
def rIxA (K : PySem.W.Frag) : R2 := fun x y H Q => rIxL K x y H Q ∨ rIxT K x y H Q
theorem ix_A {X : Cx} : IxR X (rIxA X.K) := ix_list.or ix_tup
theorem atI_of {vs : List V} {xs : List D} {i : Int} {d : D} (l : vs.length = xs.length) (h : atI xs i = some d) : ∃ (v : V) (j : Nat), atI vs i = some v ∧ vs[j]? = some v ∧ xs[j]? = some d := by
  unfold atI at h ⊢
  rw [l]
  cases e : ixN xs.length i with
  | none => rw [e] at h; cases h
  | some j =>
    rw [e] at h
    have h : xs[j]? = some d := h
    have := (List.getElem?_eq_some_iff.mp h).1
    exact ⟨vs[j]'(by omega), j, List.getElem?_eq_getElem (by omega), List.getElem?_eq_getElem _, h⟩
theorem r_ix {K : PySem.W.Frag} (v w : V) (H : Hp) (Q : VK) (h : rSem2 K sIx v w H Q) : rIxA K v w H Q := by
  obtain ⟨x, y, z, g1, g2, w1, w2, hz, q⟩ := h
  unfold sIx at hz
  split at hz
  · rename_i xs i hxs
    split at hz
    · rename_i d hd
      split at hz
      · rename_i hf
        cases hz
        unfold seqOf at hxs
        split at hxs <;> cases hxs
        · obtain ⟨a, vs, rfl, h1, h2, h3⟩ := w1.tpl
          obtain ⟨u, j, e1, e2, e3⟩ := atI_of h2 hd
          obtain ⟨g, wg⟩ := h3 j u z e2 e3
          exact .inr ⟨a, vs, i, u, rfl, w2.int, h1, e1, q.here (wg.isF hf).1⟩
        · obtain ⟨a, vs, rfl, h1, h2, h3⟩ := w1.lst
          obtain ⟨u, j, e1, e2, e3⟩ := atI_of h2 hd
          obtain ⟨g, wg⟩ := h3 j u z e2 e3
          exact .inl ⟨a, vs, i, u, rfl, w2.int, h1, e1, q.here (wg.isF hf).1⟩
      · cases hz
    · cases hz
  · cases hz

/-! ### built-in functions -/
section
variable {K : PySem.W.Frag}
theorem Rds.one {H : Hp} {vs : List V} {d : D} (h : Rds K H vs [d]) : ∃ v g, vs = [v] ∧ Ow K H v d g := by
  match vs, h with
  | [v], ⟨⟨g, w⟩, _⟩ => exact ⟨v, g, rfl, w⟩
theorem Rds.two {H : Hp} {vs : List V} {d e : D} (h : Rds K H vs [d, e]) : ∃ v w g g', vs = [v, w] ∧ Ow K H v d g ∧ Ow K H w e g' := by
  match vs, h with
  | [v, v'], ⟨⟨g, w⟩, ⟨g', w'⟩, _⟩ => exact ⟨v, v', g, g', rfl, w, w'⟩
def sLen (ds : List D) : Option D := match ds with
  | [d] => (match seqOf d with
    | some xs => some (.int xs.length)
    | none => none)
  | _ => none
theorem r_len (vs : List V) (H : Hp) (Q : VK) (h : rSemL K sLen vs H Q) : (∃ p ys, vs = [.ref p] ∧ (SqL K H p ys ∨ SqT K H p ys) ∧ Q (.int ys.length) H) := by
  obtain ⟨ds, z, hr, hz, q⟩ := h
  unfold sLen at hz
  split at hz
  · rename_i d
    obtain ⟨v, g, rfl, w⟩ := hr.one
    split at hz
    · rename_i xs hxs
      cases hz
      unfold seqOf at hxs
      split at hxs <;> cases hxs
      · obtain ⟨a, us, rfl, h1, h2, h3⟩ := w.tpl
        exact ⟨a, us, rfl, .inr h1, by rw [h2]; exact q.here (.int _)⟩
      · obtain ⟨a, us, rfl, h1, h2, h3⟩ := w.lst
        exact ⟨a, us, rfl, .inl h1, by rw [h2]; exact q.here (.int _)⟩
    · cases hz
  · cases hz
def sAbs (ds : List D) : Option D := match ds with
  | [.int i] => some (.int (if i < 0 then -i else i))
  | _ => none
theorem r_abs (vs : List V) (H : Hp) (Q : VK) (h : rSemL K sAbs vs H Q) : ∃ i, vs = [.int i] ∧ Q (.int (if i < 0 then -i else i)) H := by
  obtain ⟨ds, z, hr, hz, q⟩ := h
  unfold sAbs at hz
  split at hz
  · rename_i i
    cases hz
    exact ⟨i, Rds.int1 hr, q.here (.int _)⟩
  · cases hz
def sInt (ds : List D) : Option D := match ds with
  | [.int i] => some (.int i)
  | [.bl b] => some (.int (if b then 1 else 0))
  | _ => none
theorem r_int (vs : List V) (H : Hp) (Q : VK) (h : rSemL K sInt vs H Q) : (∃ i, vs = [.int i] ∧ Q (.int i) H) ∨ ∃ k, vs = [.bl k] ∧ Q (.int (if k then 1 else 0)) H := by
  obtain ⟨ds, z, hr, hz, q⟩ := h
  unfold sInt at hz
  split at hz
  · rename_i i
    cases hz
    exact .inl ⟨i, Rds.int1 hr, q.here (.int _)⟩
  · rename_i b
    cases hz
    obtain ⟨v, g, rfl, w⟩ := hr.one
    exact .inr ⟨b, by rw [w.bl], q.here (.int _)⟩
  · cases hz
def sMax2 (ds : List D) : Option D := match ds with
  | [.int i, .int j] => some (.int (if j > i then j else i))
  | _ => none
def sMin2 (ds : List D) : Option D := match ds with
  | [.int i, .int j] => some (.int (if j < i then j else i))
  | _ => none
theorem r_max2 (vs : List V) (H : Hp) (Q : VK) (h : rSemL K sMax2 vs H Q) : ∃ i j, vs = [.int i, .int j] ∧ Q (.int (if j > i then j else i)) H := by
  obtain ⟨ds, z, hr, hz, q⟩ := h
  unfold sMax2 at hz
  split at hz
  · rename_i i j
    cases hz
    exact ⟨i, j, Rds.int2 hr, q.here (.int _)⟩
  · cases hz
theorem r_min2 (vs : List V) (H : Hp) (Q : VK) (h : rSemL K sMin2 vs H Q) : ∃ i j, vs = [.int i, .int j] ∧ Q (.int (if j < i then j else i)) H := by
  obtain ⟨ds, z, hr, hz, q⟩ := h
  unfold sMin2 at hz
  split at hz
  · rename_i i j
    cases hz
    exact ⟨i, j, Rds.int2 hr, q.here (.int _)⟩
  · cases hz
def sTuple (ds : List D) : Option D := match ds with
  | [d] => (match seqOf d with
    | some xs => if D.isFL xs = true then some (.nd .tup xs) else none
    | none => none)
  | _ => none
def sList (ds : List D) : Option D := match ds with
  | [d] => (match seqOf d with
    | some xs => if D.isFL xs = true then some (.nd (.lst true) xs) else none
    | none => none)
  | _ => none
theorem r_tuple (vs : List V) (H : Hp) (Q : VK) (h : rSemL K sTuple vs H Q) : ∃ p ys, vs = [.ref p] ∧ ((SqL K H p ys ∧ ∀ l, H l = none → Q (.ref l) (upd H l (.tup ys))) ∨ (SqT K H p ys ∧ Q (.ref p) H)) := by
  obtain ⟨ds, z, hr, hz, q⟩ := h
  unfold sTuple at hz
  split at hz
  · rename_i d
    obtain ⟨v, g, rfl, w⟩ := hr.one
    split at hz
    · rename_i xs hxs
      split at hz
      · rename_i hf
        cases hz
        unfold seqOf at hxs
        split at hxs <;> cases hxs
        · obtain ⟨a, us, rfl, h1, h2, h3⟩ := w.tpl
          exact ⟨a, us, rfl, .inr ⟨h1, q.here (.nd (k := .tup) h1 h2 (kids_fz h3 hf))⟩⟩
        · obtain ⟨a, us, rfl, h1, h2, h3⟩ := w.lst
          exact ⟨a, us, rfl, .inl ⟨h1, fun l nl => q.newT nl h2 (kids_fz h3 hf)⟩⟩
      · cases hz
    · cases hz
  · cases hz
theorem r_list (vs : List V) (H : Hp) (Q : VK) (h : rSemL K sList vs H Q) : ∃ p ys, vs = [.ref p] ∧ (SqL K H p ys ∨ SqT K H p ys) ∧ ∀ l, H l = none → Q (.ref l) (upd H l (.lst ys)) := by
  obtain ⟨ds, z, hr, hz, q⟩ := h
  unfold sList at hz
  split at hz
  · rename_i d
    obtain ⟨v, g, rfl, w⟩ := hr.one
    split at hz
    · rename_i xs hxs
      split at hz
      · rename_i hf
        cases hz
        unfold seqOf at hxs
        split at hxs <;> cases hxs
        · obtain ⟨a, us, rfl, h1, h2, h3⟩ := w.tpl
          exact ⟨a, us, rfl, .inr h1, fun l nl => q.newL nl h2 (kids_fz h3 hf)⟩
        · obtain ⟨a, us, rfl, h1, h2, h3⟩ := w.lst
          exact ⟨a, us, rfl, .inl h1, fun l nl => q.newL nl h2 (kids_fz h3 hf)⟩
      · cases hz
    · cases hz
  · cases hz
end
/-! ### isinstance -/
def tyD : D → String
  | .non => "NoneType"
  | .bl _ => "bool"
  | .int _ => "int"
  | .str _ => "str"
  | .nd .tup _ => "tuple"
  | .nd (.lst _) _ => "list"
  | .nd (.dic _ _) _ => "dict"
def sIsI (T : String) (x : D) : Option D := match x with
  | .nd (.dic _ _) _ => none
  | _ => (match kitB (tyD x) T with
    | some b => some (.bl b)
    | none => none)
theorem Ow.ty {K : PySem.W.Frag} {H : Hp} {v : V} {d : D} {g : List Addr} (w : Ow K H v d g) (h : ∀ o ks xs, d ≠ .nd (.dic o ks) xs) : TyX K H v (.type (tyD d)) := by
  cases d with
  | non => rw [w.non]; exact .base .non
  | bl b => rw [w.bl]; exact .base (.bl b)
  | int i => rw [w.int]; exact .base (.int i)
  | str x => rw [w.str]; exact .base (.str x)
  | nd k xs =>
    cases k with
    | tup =>
      obtain ⟨a, vs, rfl, h1, h2, h3⟩ := w.tpl
      rcases h1 with (h1 | ⟨o, h1⟩) | ⟨o, its, n, k1, k2, k3⟩
      · exact .base (.tup h1)
      · exact .fTuple h1
      · exact .kTuple k1 k2
    | lst o =>
      obtain ⟨a, vs, rfl, h1, h2, h3⟩ := w.lst
      rcases h1 with (h1 | ⟨o, h1⟩) | ⟨o, its, n, k1, k2, k3⟩
      · exact .base (.lst h1)
      · exact .base (.frz h1)
      · exact .kList k1 k2
    | dic o ks => exact absurd rfl (h o ks xs)
def fIsI (T : String) (f : FE) : FE := fOp1 (sIsI T) f
theorem x_isI {X : Cx} {Γ : Ct} {T : String} {e : Expr} {f : FE} {p p2 pos : Pos} (hK : Γ.K = X.K) (hg : Gl X "isinstance") (hm : X.mg "isinstance" = none) (hT : Gl X (Str.ofString T)) (hmT : X.mg (Str.ofString T) = none) (hvT : bootBuiltins (Str.ofString T) = some (.type T))
    (ha : XE' X Γ e f) (hn : (Str.ofString T) ≠ "__name__" := by decide) (hdT : ((Str.ofString T) == ("__debug__" : Str)) = false := by decide)
    (he : starEach [e, .Name (Str.ofString T) p2] X.env = (false, eval e X.env) :: starEach [.Name (Str.ofString T) p2] X.env := by rfl) (he2 : starEach [.Name (Str.ofString T) p2] X.env = (false, eval (.Name (Str.ofString T) p2) X.env) :: starEach [] X.env := by rfl) (hpl : (backTo pos (starEach [.Name (Str.ofString T) p2] X.env)).any (·.1) = false := by rfl) :
    XE' X Γ (.Call (.Name "isinstance" p) [e, .Name (Str.ofString T) p2] [] pos) (fIsI T f) := by
  refine PE.imp (pe_callB call_isi hg hm (by decide +kernel) (pa_cons ha (pa_cons (pe_bltn hT hmT hvT (v := .ty T) rfl hn hdT) pa_nil he2) he) (by decide) (by decide) he hpl) fun σ H Q ⟨ρ, A, F, e, h⟩ => ?_
  refine ⟨ρ, A, F, e, Go.bind h Stp.refl fun r ρ1 v H1 F1 g1 _ e1 st1 q1 h1 => ?_⟩
  unfold out1 at h1
  split at h1
  · rename_i x hx
    split at h1
    · rename_i z hz
      obtain ⟨g, w⟩ := q1.read e1 hx
      unfold sIsI at hz
      split at hz
      · cases hz
      · rename_i hnd
        split at hz
        · rename_i b hb
          cases hz
          exact ⟨v, .ty T, _, _, b, rfl, .ty T, by rw [← hK]; exact w.ty fun o ks xs z => hnd o ks xs z, kit_ty hb, (h1.new e1 st1).here (.bl b)⟩
        · cases hz
    · exact False.elim h1
  · exact False.elim h1
end EE

/-! layer E, part Z: list(zip(a, b)) -/
namespace EE
open PySem PySem.Spec
open PyProof.Rows hiding St
open L2

section
variable {prog : Program} {w : World} {A : Around} {E : Value → Shared → Prop} {s : Shared} {z TI TO i1 i2 T : Addr} {f : Bool} {oT : Obj} {fp1 fp2 : List Addr} {n1 n2 i : Nat} {P1 P2 : Nat → Value → Prop} {St1 St2 : Nat → Heap → Prop}
theorem zipd_item_held {Q : Value → Shared → Prop} (S : ZipSep2 z TI TO i1 i2 fp1 fp2) (D1 : Draws prog w A i1 fp1 n1 P1 St1) (D2 : Draws prog w A i2 fp2 n2 P2 St2)
    (hz : IsZipHeld s.heap z TI TO T f) (hT : s.heap.get? T = some oT) (hTI : IsTupOf2 s.heap TI (.ref i1) (.ref i2)) (st1 : St1 i s.heap) (st2 : St2 i s.heap) (hlt1 : i < n1) (hlt2 : i < n2)
    (hQ : ∀ x1 x2 h' tk, P1 i x1 → P2 i x2 → IsZipHeld h' z TI TO T true → St1 (i + 1) h' → St2 (i + 1) h' → IsTupOf2 h' s.heap.objs.size x1 x2 → h'.objs.size = s.heap.objs.size + 1 →
      (∀ c o, c ≠ z → c ≠ i1 → c ≠ i2 → s.heap.get? c = some o → h'.get? c = some o) → Q (.ref s.heap.objs.size) { s with heap := h', toks := tk }) :
    wpAny (model prog w) A (Builtin.«zip.__next__» ⟨[.ref z], []⟩) (fun fin s' => ∃ v, fin = .done (.ret v) ∧ Q v s') E s := by
  obtain ⟨hp, g, d, tk0, os⟩ := s
  show wpAny _ _ (field (.ref z) 2 >>= _) _ _ _
  refine wpAny_bind (wpAny_field hz rfl (x := .bool false) rfl ?_)
  show wpAny _ _ (field (.ref z) 3 >>= _) _ _ _
  refine wpAny_bind (wpAny_field hz rfl (x := .ref TI) rfl ?_)
  refine wpAny_bind (wpAny_seqItems hTI rfl ?_)
  show wpAny _ _ (Builtin.SmallTypes.ownedTupleIsFree (.ref z) >>= _) _ _ _
  refine wpAny_bind (wpAny_tupleHeld_zip hz hT fun g0 hz0 hs0 => ?_)
  replace hs0 : Heap.SameBut z hp g0 := hs0
  simp only [Bool.false_eq_true, if_false]
  refine wpAny_bind ?_
  rw [← Array.forIn_toList]
  simp only [List.forIn_cons, List.forIn_nil]
  refine wpAny_bind (wpAny_bind (wpAny_holding ?_))
  show wpAny _ _ (Builtin.SmallTypes.nextOf (.ref i1) >>= _) _ _ ⟨g0, g, d, tk0, os⟩
  refine wpAny_bind (D1.item i _ _ _ hlt1 (D1.over st1 hs0 S.zf1) fun x1 p1 tk1 hx1 sn1 hp1 => wpAny_pure ?_)
  replace hp1 : Heap.SameBut i1 g0 p1 := hp1
  refine wpAny_pure ?_
  refine wpAny_bind (wpAny_bind (wpAny_holding ?_))
  show wpAny _ _ (Builtin.SmallTypes.nextOf (.ref i2) >>= _) _ _ ⟨p1, g, d, tk1, os⟩
  refine wpAny_bind (D2.item i _ _ _ hlt2 (D2.over (D2.over st2 hs0 S.zf2) hp1 S.sep1_2) fun x2 p2 tk2 hx2 sn2 hp2 => wpAny_pure ?_)
  replace hp2 : Heap.SameBut i2 p1 p2 := hp2
  refine wpAny_pure (wpAny_pure ?_)
  show wpAny _ _ (newTuple [x1, x2] >>= _) _ _ _
  refine wpAny_bind (wpAny_newTuple ?_)
  have hsz : p2.objs.size = hp.objs.size := by rw [hp2.1, hp1.1, hs0.1]
  have hz3 : IsZipHeld p2 z TI TO T true := hp2.extBut _ _ S.zi2 (hp1.extBut _ _ S.zi1 hz0)
  have hk : ∀ c o, c ≠ z → c ≠ i1 → c ≠ i2 → hp.get? c = some o → p2.get? c = some o := fun c o c1 c2 c3 e => hp2.extBut _ _ c3 (hp1.extBut _ _ c2 (hs0.extBut _ _ c1 e))
  refine wpAny_pure ⟨_, rfl, ?_⟩
  show Q (.ref p2.objs.size) _
  have hp' : IsTupOf2 (p2.push { cls := .type "tuple", data := .seq #[x1, x2] }) p2.objs.size x1 x2 := Heap.get?_push_size _ rfl
  have hz4 : (p2.push { cls := .type "tuple", data := .seq #[x1, x2] }).objs.size = p2.objs.size + 1 := Heap.size_push ..
  have t1 : St1 (i + 1) (p2.push { cls := .type "tuple", data := .seq #[x1, x2] }) := D1.frame _ _ _ (D1.over sn1 hp2 S.sep2_1) fun b _ o e => Heap.get?_push_of_some _ e
  have t2 : St2 (i + 1) (p2.push { cls := .type "tuple", data := .seq #[x1, x2] }) := D2.frame _ _ _ sn2 fun b _ o e => Heap.get?_push_of_some _ e
  rw [hsz] at hp' hz4 ⊢
  exact hQ _ _ _ _ hx1 hx2 (Heap.get?_push_of_some _ hz3) t1 t2 hp' hz4 fun c o c1 c2 c3 e => Heap.get?_push_of_some _ (hk c o c1 c2 c3 e)
theorem zipd_end_held {Q : Fin → Shared → Prop} (S : ZipSep2 z TI TO i1 i2 fp1 fp2) (D1 : Draws prog w A i1 fp1 n1 P1 St1) (D2 : Draws prog w A i2 fp2 n2 P2 St2)
    (hz : IsZipHeld s.heap z TI TO T f) (hT : s.heap.get? T = some oT) (hTI : IsTupOf2 s.heap TI (.ref i1) (.ref i2)) (st1 : St1 i s.heap) (st2 : St2 i s.heap) (hle1 : i ≤ n1) (hle2 : i ≤ n2) (hend : i = n1 ∨ i = n2)
    (hE : ∀ h' tk e, (∀ c o, c ≠ z → c ≠ i1 → c ≠ i2 → s.heap.get? c = some o → h'.get? c = some o) → (∃ o, h'.get? e = some o ∧ o.cls = .type "StopIteration") → E (.ref e) { s with heap := h', toks := tk }) :
    wpAny (model prog w) A (Builtin.«zip.__next__» ⟨[.ref z], []⟩) Q E s := by
  obtain ⟨hp, g, d, tk0, os⟩ := s
  show wpAny _ _ (field (.ref z) 2 >>= _) _ _ _
  refine wpAny_bind (wpAny_field hz rfl (x := .bool false) rfl ?_)
  show wpAny _ _ (field (.ref z) 3 >>= _) _ _ _
  refine wpAny_bind (wpAny_field hz rfl (x := .ref TI) rfl ?_)
  refine wpAny_bind (wpAny_seqItems hTI rfl ?_)
  show wpAny _ _ (Builtin.SmallTypes.ownedTupleIsFree (.ref z) >>= _) _ _ _
  refine wpAny_bind (wpAny_tupleHeld_zip hz hT fun g0 hz0 hs0 => ?_)
  replace hs0 : Heap.SameBut z hp g0 := hs0
  simp only [Bool.false_eq_true, if_false]
  refine wpAny_bind ?_
  rw [← Array.forIn_toList]
  simp only [List.forIn_cons, List.forIn_nil]
  refine wpAny_bind (wpAny_bind (wpAny_holding ?_))
  show wpAny _ _ (Builtin.SmallTypes.nextOf (.ref i1) >>= _) _ _ ⟨g0, g, d, tk0, os⟩
  by_cases hlt1 : i < n1
  · refine wpAny_bind (D1.item i _ _ _ hlt1 (D1.over st1 hs0 S.zf1) fun x1 p1 tk1 hx1 sn1 hp1 => wpAny_pure ?_)
    replace hp1 : Heap.SameBut i1 g0 p1 := hp1
    refine wpAny_pure ?_
    have hi2 : i = n2 := by omega
    refine wpAny_bind (wpAny_bind (wpAny_holding ?_))
    show wpAny _ _ (Builtin.SmallTypes.nextOf (.ref i2) >>= _) _ _ ⟨p1, g, d, tk1, os⟩
    refine wpAny_bind (D2.done ⟨p1, g, d, tk1, os⟩ _ _ (by rw [← hi2]; exact D2.over (D2.over st2 hs0 S.zf2) hp1 S.sep1_2) fun q e hq he => ?_)
    replace hq : Heap.ExtBut i2 p1 q := hq
    exact hE q tk1 e (fun c o cz c1 c2 x => hq _ _ c2 (hp1.extBut _ _ c1 (hs0.extBut _ _ cz x))) he
  · have hi1 : i = n1 := by omega
    refine wpAny_bind (D1.done ⟨g0, g, d, tk0, os⟩ _ _ (by rw [← hi1]; exact D1.over st1 hs0 S.zf1) fun q e hq he => ?_)
    replace hq : Heap.ExtBut i1 g0 q := hq
    exact hE q tk0 e (fun c o cz c1 c2 x => hq _ _ c1 (hs0.extBut _ _ cz x)) he
theorem pyNext_zipd_item_held {Q : Option Value → Shared → Prop} (S : ZipSep2 z TI TO i1 i2 fp1 fp2) (D1 : Draws prog w A.in1 i1 fp1 n1 P1 St1) (D2 : Draws prog w A.in1 i2 fp2 n2 P2 St2)
    (hz : IsZipHeld s.heap z TI TO T f) (hT : s.heap.get? T = some oT) (hTI : IsTupOf2 s.heap TI (.ref i1) (.ref i2)) (st1 : St1 i s.heap) (st2 : St2 i s.heap) (hlt1 : i < n1) (hlt2 : i < n2)
    (hQ : ∀ x1 x2 h' tk, P1 i x1 → P2 i x2 → IsZipHeld h' z TI TO T true → St1 (i + 1) h' → St2 (i + 1) h' → IsTupOf2 h' s.heap.objs.size x1 x2 → h'.objs.size = s.heap.objs.size + 1 →
      (∀ c o, c ≠ z → c ≠ i1 → c ≠ i2 → s.heap.get? c = some o → h'.get? c = some o) → Q (some (.ref s.heap.objs.size)) { s with heap := h', toks := tk }) : wpAny (model prog w) A (pyNext (.ref z)) Q E s := by
  have hTy : s.TypeIs (.ref z) "zip" := ⟨_, hz, rfl⟩
  unfold pyNext
  exact wpAny_bind (wpAny_attempt (wpAny_callSpecial?_slot (name := Str.ofString "__next__") hTy F.slot_zip_next
    (wpAny_call_entry F.slot_zip_next hTy F.entry_zip_next
      (zipd_item_held S D1 D2 hz hT hTI st1 st2 hlt1 hlt2 fun x1 x2 h' tk a0 a1 a2 a3 a4 a5 a6 a7 => wpAny_pure (hQ x1 x2 h' tk a0 a1 a2 a3 a4 a5 a6 a7)) (F.args_zip_next_1 _))))
theorem pyNext_zipd_end_held {Q : Option Value → Shared → Prop} (S : ZipSep2 z TI TO i1 i2 fp1 fp2) (D1 : Draws prog w A.in1 i1 fp1 n1 P1 St1) (D2 : Draws prog w A.in1 i2 fp2 n2 P2 St2)
    (hz : IsZipHeld s.heap z TI TO T f) (hT : s.heap.get? T = some oT) (hTI : IsTupOf2 s.heap TI (.ref i1) (.ref i2)) (st1 : St1 i s.heap) (st2 : St2 i s.heap) (hle1 : i ≤ n1) (hle2 : i ≤ n2) (hend : i = n1 ∨ i = n2)
    (hQ : ∀ h' tk, (∀ c o, c ≠ z → c ≠ i1 → c ≠ i2 → s.heap.get? c = some o → h'.get? c = some o) → Q none { s with heap := h', toks := tk }) : wpAny (model prog w) A (pyNext (.ref z)) Q E s := by
  have hTy : s.TypeIs (.ref z) "zip" := ⟨_, hz, rfl⟩
  unfold pyNext
  refine wpAny_bind (wpAny_attempt (wpAny_callSpecial?_slot (name := Str.ofString "__next__") hTy F.slot_zip_next
    (wpAny_call_entry F.slot_zip_next hTy F.entry_zip_next (zipd_end_held S D1 D2 hz hT hTI st1 st2 hle1 hle2 hend fun h' tk e hk he => ?_) (F.args_zip_next_1 _))))
  obtain ⟨o, ho, hc⟩ := he
  refine wpAny_bind (wpAny_isInstance (T := "StopIteration") (b := true) ⟨o, ho, hc⟩ isSubtype_stop ?_)
  exact wpAny_pure (hQ _ _ hk)
end

/-- the zip's cells at turn i, while a list S takes its tuples -/
def ZSt (z TI TO i1 i2 S : Addr) (St1 St2 : Nat → Heap → Prop) (i : Nat) (h : Heap) : Prop :=
  IsTupOf2 h TI (.ref i1) (.ref i2) ∧ St1 i h ∧ St2 i h ∧ ((IsZip h z TI TO .none ∧ ∃ a b, IsTupOf2 h TO a b) ∨ ∃ T f oT, IsZipHeld h z TI TO T f ∧ h.get? T = some oT ∧ T ≠ z ∧ T ≠ i1 ∧ T ≠ i2 ∧ T ≠ S)
section
variable {prog : Program} {w : World} {A : Around} {E : Value → Shared → Prop} {s : Shared} {z TI TO i1 i2 S : Addr} {fp1 fp2 : List Addr} {n1 n2 i : Nat} {P1 P2 : Nat → Value → Prop} {St1 St2 : Nat → Heap → Prop}
theorem ZSt.frame {h h' : Heap} (D1 : Draws prog w A i1 fp1 n1 P1 St1) (D2 : Draws prog w A i2 fp2 n2 P2 St2) (st : ZSt z TI TO i1 i2 S St1 St2 i h) (k : ∀ c o, c ≠ S → h.get? c = some o → h'.get? c = some o)
    (n1' : z ≠ S) (n2' : TI ≠ S) (n3 : TO ≠ S) (n4 : S ∉ fp1) (n5 : S ∉ fp2) : ZSt z TI TO i1 i2 S St1 St2 i h' := by
  obtain ⟨a, b, c, d⟩ := st
  refine ⟨k _ _ n2' a, D1.frame _ _ _ b fun x hx o e => k x o (fun q => n4 (q ▸ hx)) e, D2.frame _ _ _ c fun x hx o e => k x o (fun q => n5 (q ▸ hx)) e, ?_⟩
  rcases d with ⟨d, x, y, e⟩ | ⟨T, f, oT, d, e, r1, r2, r3, r4⟩
  · exact .inl ⟨k _ _ n1' d, x, y, k _ _ n3 e⟩
  · exact .inr ⟨T, f, oT, k _ _ n1' d, k _ _ r4 e, r1, r2, r3, r4⟩
theorem ZSt.item {Q : Option Value → Shared → Prop} (Sp : ZipSep2 z TI TO i1 i2 fp1 fp2) (D1 : Draws prog w A.in1 i1 fp1 n1 P1 St1) (D2 : Draws prog w A.in1 i2 fp2 n2 P2 St2) (st : ZSt z TI TO i1 i2 S St1 St2 i s.heap) (hlt1 : i < n1) (hlt2 : i < n2)
    (hz : z < s.heap.objs.size) (h1 : i1 < s.heap.objs.size) (h2 : i2 < s.heap.objs.size) (hS : S < s.heap.objs.size)
    (hQ : ∀ x1 x2 h' tk, P1 i x1 → P2 i x2 → ZSt z TI TO i1 i2 S St1 St2 (i + 1) h' → IsTupOf2 h' s.heap.objs.size x1 x2 → (∀ c o, c ∉ [z, TO, i1, i2] → s.heap.get? c = some o → h'.get? c = some o) → Q (some (.ref s.heap.objs.size)) { s with heap := h', toks := tk }) :
    wpAny (model prog w) A (pyNext (.ref z)) Q E s := by
  obtain ⟨hTI, st1, st2, d⟩ := st
  rcases d with ⟨hz', a, b, hTO⟩ | ⟨T, f, oT, hz', hT, r1, r2, r3, r4⟩
  · refine wpAny_pyNext_zipD2_item Sp D1 D2 hz' hTI hTO st1 st2 hlt1 hlt2 fun x1 x2 h' tk y1 y2 b1 b2 d1 d2 b5 b6 hk => ?_
    refine hQ x1 x2 h' tk y1 y2 ⟨hk _ _ Sp.TIz Sp.TITO Sp.TIi1 Sp.TIi2 hTI, d1, d2, .inr ⟨_, false, _, b1, b5, Nat.ne_of_gt hz, Nat.ne_of_gt h1, Nat.ne_of_gt h2, Nat.ne_of_gt hS⟩⟩ b5 fun c o hc e => hk c o (fun x => hc (by simp [x])) (fun x => hc (by simp [x])) (fun x => hc (by simp [x])) (fun x => hc (by simp [x])) e
  · refine pyNext_zipd_item_held Sp D1 D2 hz' hT hTI st1 st2 hlt1 hlt2 fun x1 x2 h' tk y1 y2 a1 a2 a3 a4 a5 hk => ?_
    refine hQ x1 x2 h' tk y1 y2 ⟨hk _ _ Sp.TIz Sp.TIi1 Sp.TIi2 hTI, a2, a3, .inr ⟨T, true, oT, a1, hk _ _ r1 r2 r3 hT, r1, r2, r3, r4⟩⟩ a4 fun c o hc e => hk c o (fun x => hc (by simp [x])) (fun x => hc (by simp [x])) (fun x => hc (by simp [x])) e
theorem ZSt.done {Q : Option Value → Shared → Prop} (Sp : ZipSep2 z TI TO i1 i2 fp1 fp2) (D1 : Draws prog w A.in1 i1 fp1 n1 P1 St1) (D2 : Draws prog w A.in1 i2 fp2 n2 P2 St2) (st : ZSt z TI TO i1 i2 S St1 St2 i s.heap) (hle1 : i ≤ n1) (hle2 : i ≤ n2) (hend : i = n1 ∨ i = n2)
    (hQ : ∀ h' tk, (∀ c o, c ∉ [z, TO, i1, i2] → s.heap.get? c = some o → h'.get? c = some o) → Q none { s with heap := h', toks := tk }) :
    wpAny (model prog w) A (pyNext (.ref z)) Q E s := by
  obtain ⟨hTI, st1, st2, d⟩ := st
  rcases d with ⟨hz', a, b, hTO⟩ | ⟨T, f, oT, hz', hT, r1, r2, r3, r4⟩
  · refine wpAny_pyNext_zipD2_end Sp D1 D2 hz' hTI hTO st1 st2 hle1 hle2 hend fun h' tk hk => hQ h' tk fun c o hc e => hk c o (fun x => hc (by simp [x])) (fun x => hc (by simp [x])) (fun x => hc (by simp [x])) (fun x => hc (by simp [x])) e
  · refine pyNext_zipd_end_held Sp D1 D2 hz' hT hTI st1 st2 hle1 hle2 hend fun h' tk hk => hQ h' tk fun c o hc e => hk c o (fun x => hc (by simp [x])) (fun x => hc (by simp [x])) (fun x => hc (by simp [x])) e
end

theorem fpOk_upd {X : Cx} {pins : List (Addr × Obj)} {H : Hp} {c T : Addr} {o : HO} (h : FpOk X pins H c) (n : c ≠ T) : FpOk X pins (upd H T o) c := ⟨by rw [upd_ne n]; exact h.1, h.2⟩

section
variable {X : Cx} {pins : List (Addr × Obj)} {σ : L2.St} {A : Around} {R : Result → Shared → Prop} {z TI TO i1 i2 S a b : Addr} {n1 n2 : Nat} {P1 P2 : Nat → Value → Prop} {St1 St2 : Nat → Heap → Prop} {xs ys : List V}
theorem zip_loop (Sp : ZipSep2 z TI TO i1 i2 [i1, a] [i2, b]) (D1 : Draws X.prog X.w A.in1.in1 i1 [i1, a] n1 P1 St1) (D2 : Draws X.prog X.w A.in1.in1 i2 [i2, b] n2 P2 St2)
    (hP1 : ∀ i v, P1 i v → ∃ x, xs[i]? = some x ∧ RelV x v) (hP2 : ∀ i v, P2 i v → ∃ x, ys[i]? = some x ∧ RelV x v) (hSz : S ∉ [z, TI, TO, i1, i2, a, b]) (res : Value) (hn : min n1 n2 ≤ sizeLine) (H0 : Hp) (h0S : H0 S = none) :
    ∀ (k i : Nat) (Hc : Hp) (s : Shared) (Ts : List Addr), min n1 n2 - i = k → i ≤ min n1 n2 → Inv X pins σ Hc s → Hc S = some (.lst (Ts.map V.ref)) → Ts.length = i → ZSt z TI TO i1 i2 S St1 St2 i s.heap → (∀ c ∈ [z, TI, TO, i1, i2], FpOk X pins Hc c ∧ c < s.heap.objs.size) → (∀ b o, H0 b = some o → Hc b = some o) →
      (∀ (j : Nat) T, Ts[j]? = some T → ∃ x y, xs[j]? = some x ∧ ys[j]? = some y ∧ Hc T = some (.tup [x, y])) →
      (∀ (Hc : Hp) (s : Shared) (Ts : List Addr), Inv X pins σ Hc s → Hc S = some (.lst (Ts.map V.ref)) → Ts.length = min n1 n2 → (∀ b o, H0 b = some o → Hc b = some o) → (∀ (j : Nat) T, Ts[j]? = some T → ∃ x y, xs[j]? = some x ∧ ys[j]? = some y ∧ Hc T = some (.tup [x, y])) → R (.ok (.ret res)) s) →
      codeAny (model X.prog X.w) A (.builtin "list.extend.loop" ⟨[.ref S, .ref z, res], []⟩) R s := by
  simp only [List.mem_cons, List.not_mem_nil, or_false, not_or] at hSz
  obtain ⟨q1, q2, q3, q4, q5, q6, q7⟩ := hSz
  intro k
  induction k with
  | zero =>
    intro i Hc s Ts hk hi I hS hl st fp k0 pr hR
    refine codeAny_builtin F.entry_extend_loop ?_
    rw [Around.under_plainId F.plain_extend_loop _]
    show wpAny _ A.in1 (pyNext (.ref z) >>= _) _ _ s
    refine wpAny_bind (ZSt.done Sp D1 D2 st (by omega) (by omega) (by omega) fun h' tk hk' => ?_)
    have I1 : Inv X pins σ Hc { s with heap := h', toks := tk } := I.turnedL (ch := [z, TO, i1, i2]) hk' fun c hc => (fp c (by simp at hc ⊢; rcases hc with h | h | h | h <;> simp [h])).1
    exact wpAny_pure (hR Hc _ Ts I1 hS (by omega) k0 pr)
  | succ k ih =>
    intro i Hc s Ts hk hi I hS hl st fp k0 pr hR
    refine codeAny_builtin F.entry_extend_loop ?_
    rw [Around.under_plainId F.plain_extend_loop _]
    show wpAny _ A.in1 (pyNext (.ref z) >>= _) _ _ s
    obtain ⟨_, its0, c0, r0, l0, e0⟩ := I.lstM hS
    have hSlt : S < s.heap.objs.size := Heap.lt_size e0
    refine wpAny_bind (ZSt.item Sp D1 D2 st (by omega) (by omega) (fp z (by simp)).2 (fp i1 (by simp)).2 (fp i2 (by simp)).2 hSlt fun x1 x2 h' tk p1 p2 st' hT hk' => ?_)
    obtain ⟨x, hx, rx⟩ := hP1 _ _ p1
    obtain ⟨y, hy, ry⟩ := hP2 _ _ p2
    have fr : Hc s.heap.objs.size = none := I.hok.fresh (Nat.le_refl _)
    have new : ObjOk X.prog X.w (upd Hc s.heap.objs.size (.tup [x, y])) h' s.heap.objs.size (.tup [x, y]) :=
      ⟨by show 2 ≤ sizeLine; decide, [x1, x2], .cons rx (.cons ry .nil), ⟨_, hT, rfl, _, rfl⟩⟩
    have I1 : Inv X pins σ (upd Hc s.heap.objs.size (.tup [x, y])) { s with heap := h', toks := tk } :=
      I.turnedNew (ch := [z, TO, i1, i2]) hk' (fun c hc => (fp c (by simp at hc ⊢; rcases hc with h | h | h | h <;> simp [h])).1) (Nat.le_refl _) new
    have hS1 : (upd Hc s.heap.objs.size (.tup [x, y])) S = some (.lst (Ts.map V.ref)) := by rw [upd_ne (Nat.ne_of_lt hSlt)]; exact hS
    obtain ⟨_, its1, c1, r1, l1, e1⟩ := I1.lstM hS1
    have hSl : S < h'.objs.size := Heap.lt_size e1
    rw [List.length_map] at l1
    show wpAny _ A.in1 (updateSeq S (·.push (.ref s.heap.objs.size)) >>= _) _ _ _
    refine wpAny_bind ?_
    have I2 : Inv X pins σ (upd (upd Hc s.heap.objs.size (.tup [x, y])) S (.lst ((Ts ++ [s.heap.objs.size]).map V.ref))) { ({ s with heap := h', toks := tk } : Shared) with heap := h'.update S (Obj.mapSeq (·.push (.ref s.heap.objs.size))), toks := tk } := by
      rw [List.map_append]
      refine I1.lset (its' := its1 ++ [.ref s.heap.objs.size]) hS1 e1 (by simp) (r1.append (.cons (show RelV (.ref s.heap.objs.size) (.ref s.heap.objs.size) from rfl) .nil)) ?_
      simp only [List.length_append, List.length_map, List.length_cons, List.length_nil]
      omega
    refine wpAny_updateSeq e1 rfl (wpAny_pure ⟨plainId_quiet F.plain_extend_loop _, ?_⟩)
      (by simp; omega) (by simp; omega)
    have hTl : ∀ c ∈ [z, TI, TO, i1, i2], c < s.heap.objs.size := fun c hc => (fp c hc).2
    have hT2 : s.heap.objs.size < h'.objs.size := Heap.lt_size hT
    have D1' := D1
    refine ih (i + 1) _ _ (Ts ++ [s.heap.objs.size]) (by omega) (by omega) I2 upd_same (by simp [hl]) ?_ (fun c hc => ⟨?_, ?_⟩) (fun c o e => ?_) (fun j T hj => ?_) hR
    · refine ZSt.frame D1 D2 st' (fun c o hc e => (Heap.get?_update_other _ _ (Ne.symm hc)).trans e) (Ne.symm q1) (Ne.symm q2) (Ne.symm q3) ?_ ?_
      · simp only [List.mem_cons, List.not_mem_nil, or_false, not_or]; exact ⟨q4, q6⟩
      · simp only [List.mem_cons, List.not_mem_nil, or_false, not_or]; exact ⟨q5, q7⟩
    · have hcS : c ≠ S := by
        simp only [List.mem_cons, List.not_mem_nil, or_false] at hc
        rcases hc with h | h | h | h | h <;> rw [h] <;> first | exact Ne.symm q1 | exact Ne.symm q2 | exact Ne.symm q3 | exact Ne.symm q4 | exact Ne.symm q5
      exact fpOk_upd (fpOk_upd (fp c hc).1 (Nat.ne_of_lt (hTl c hc))) hcS
    · have := hTl c hc
      have e : (h'.update S (Obj.mapSeq (·.push (.ref s.heap.objs.size)))).objs.size = h'.objs.size := Heap.size_update ..
      show c < (h'.update S (Obj.mapSeq (·.push (.ref s.heap.objs.size)))).objs.size
      rw [e]; exact Nat.lt_trans this hT2
    · rw [upd_ne (fun q => by rw [q, h0S] at e; cases e), upd_ne (fun q => by rw [q] at e; have := k0 _ _ e; rw [fr] at this; cases this)]
      exact k0 c o e
    · by_cases hj' : j < Ts.length
      · rw [List.getElem?_append_left hj'] at hj
        obtain ⟨x', y', e1, e2, e3⟩ := pr j T hj
        refine ⟨x', y', e1, e2, ?_⟩
        rw [upd_ne (fun q => by rw [q, hS] at e3; cases e3), upd_ne (fun q => by rw [q, fr] at e3; cases e3)]
        exact e3
      · rw [List.getElem?_append_right (by omega)] at hj
        have hjj : j - Ts.length = 0 := by
          have := (List.getElem?_eq_some_iff.mp hj).1
          simp at this; omega
        rw [hjj] at hj
        simp at hj
        subst hj
        have : j = i := by omega
        subst this
        refine ⟨x, y, hx, hy, ?_⟩
        rw [upd_ne (Nat.ne_of_gt hSlt), upd_same]
end

theorem zip_no_len : typeLookup (.type "zip") "__len__" = pure none := am_miss_of_fast (by decide +kernel)
theorem zip_no_hint : typeLookup (.type "zip") "__length_hint__" = pure none := am_miss_of_fast (by decide +kernel)
/-- what list(zip(a, b)) makes -/
def rLZ (K : PySem.W.Frag) (vs : List V) (H : Hp) (Q : VK) : Prop := ∃ a b xs ys, vs = [.ref a, .ref b] ∧ (SqL K H a xs ∨ SqT K H a xs) ∧ (SqL K H b ys ∨ SqT K H b ys) ∧ ∀ (p : Addr) (H' : Hp) (Ts : List Addr), (∀ c o, H c = some o → H' c = some o) → H p = none → H' p = some (.lst (Ts.map V.ref)) → Ts.length = min xs.length ys.length →
  (∀ (j : Nat) T, Ts[j]? = some T → ∃ x y, xs[j]? = some x ∧ ys[j]? = some y ∧ H' T = some (.tup [x, y])) → Q (.ref p) H'

theorem vals_getR : ∀ {xs : List V} {us : List Value} {i : Nat} {u : Value}, Vals xs us → us[i]? = some u → ∃ x, xs[i]? = some x ∧ RelV x u := fun {xs us i u} r e => by
  have l := r.length
  have := (List.getElem?_eq_some_iff.mp e).1
  obtain ⟨u', e', q⟩ := r.get (List.getElem?_eq_getElem (l := xs) (i := i) (by omega))
  rw [e] at e'; cases e'
  exact ⟨_, List.getElem?_eq_getElem (by omega), q⟩
/-- a list or a tuple to be drawn from -/
structure Src (prog : Program) (w : World) (a : Addr) (vs : List V) (h : Heap) (o : Obj) (Hq : Heap → Prop) (n : Nat) (P : Nat → Value → Prop) (St : Addr → Nat → Heap → Prop) : Prop where
  beg : Begins (.ref a) o Hq
  now : Hq h
  lt : a < h.objs.size
  len : n = vs.length
  at_ : ∀ i v, P i v → ∃ x, vs[i]? = some x ∧ RelV x v
  draws : ∀ it, it ≠ a → ∀ A : Around, A.handled = none → Draws prog w A it [it, a] n P (St it)
  start : ∀ it h', Hq h' → h'.get? it = some o → St it 0 h'
theorem src_of {X : Cx} {pins : List (Addr × Obj)} {σ : L2.St} {H : Hp} {s : Shared} {a : Addr} {vs : List V} (I : Inv X pins σ H s) (h : SqL X.K H a vs ∨ SqT X.K H a vs) : ∃ o Hq n P St, Src X.prog X.w a vs s.heap o Hq n P St := by
  rcases h with h | h
  · obtain ⟨its, rv, p, _⟩ := I.list h
    refine ⟨_, _, its.toArray.size, _, fun it i h => h.IsListIter it a i ∧ h.IsList a its.toArray, begins_list a its.toArray, p.isList, p.lt, by simpa using rv.length.symm, fun i v hv => ?_, fun it hne A hh => Draws.list hh it a hne.symm its.toArray, fun it h' hq e => ⟨⟨_, e, rfl, rfl⟩, hq⟩⟩
    exact vals_getR rv (by simpa using hv)
  · obtain ⟨its, rv, p, _⟩ := I.tuple h
    obtain ⟨o1, ho1, _⟩ := id p
    refine ⟨_, _, its.toArray.size, _, fun it i h => h.IsTupleIter it a i ∧ h.IsTuple a its.toArray, begins_tuple a its.toArray, p, Heap.lt_size ho1, by simpa using rv.length.symm, fun i v hv => ?_, fun it hne A hh => Draws.tuple hh it a hne.symm its.toArray, fun it h' hq e => ⟨⟨_, e, rfl, rfl⟩, hq⟩⟩
    exact vals_getR rv (by simpa using hv)

theorem ns7 (m n a b : Nat) (h : m = n + 5) (ha : a < n) (hb : b < n) : ¬ m = n + 4 ∧ ¬ m = n + 2 ∧ ¬ m = n + 3 ∧ ¬ m = n ∧ ¬ m = n + 1 ∧ ¬ m = a ∧ ¬ m = b := by omega
theorem in5 (m n c : Nat) (h : m = n + 5) (h2 : c = n + 4 ∨ c = n + 2 ∨ c = n + 3 ∨ c = n ∨ c = n + 1) : n ≤ c ∧ c < m := by omega
theorem zsep (n a b : Nat) (ha : a < n) (hb : b < n) : ZipSep2 (n + 4) (n + 2) (n + 3) n (n + 1) [n, a] [n + 1, b] := by
  refine ⟨?_, ?_, ?_, ?_, by simp, ?_, ?_, ?_, by simp, ?_, ?_, ?_, ?_⟩
  all_goals first
    | exact (fun h => by have h : (n + 2 : Nat) = n + 4 := h; omega)
    | exact (fun h => by have h : (n + 3 : Nat) = n + 4 := h; omega)
    | exact (fun h => by have h : (n + 2 : Nat) = n + 3 := h; omega)
    | exact (fun h => by have h : (n + 2 : Nat) = n := h; omega)
    | exact (fun h => by have h : (n + 2 : Nat) = n + 1 := h; omega)
    | (intro h; simp only [List.mem_cons, List.not_mem_nil, or_false] at h
       have h : ∀ x y z : Nat, x = y ∨ x = z → x = y ∨ x = z := fun _ _ _ h => h
       rename_i h0 
       have := h _ _ _ h0
       omega)
section
variable {X : Cx} {e e2 : Expr} {ta : TA} {p p2 pos pos2 : Pos}
def tLZ (K : PySem.W.Frag) (ta : TA) : TE := fun σ H Q => ta σ H fun vs H1 => rLZ K vs H1 Q
theorem pe_lz (hgl : Gl X "list") (hml : X.mg "list" = none) (hg : Gl X "zip") (hm : X.mg "zip" = none) (hc : X.calm = true) (ha : PA X [e, e2] ta)
    (hs : starEach [e, e2] X.env = (false, eval e X.env) :: starEach [e2] X.env := by rfl) (hpl : (backTo pos2 (starEach [e2] X.env)).any (·.1) = false := by rfl)
    (hs' : starEach [.Call (.Name "zip" p2) [e, e2] [] pos2] X.env = (false, eval (.Call (.Name "zip" p2) [e, e2] [] pos2) X.env) :: starEach [] X.env := by rfl) :
    PE X (.Call (.Name "list" p) [.Call (.Name "zip" p2) [e, e2] [] pos2] [] pos) (tLZ X.K ta) := by
  refine ⟨fun pins s σ H Q I h => ?_⟩
  refine wpAny_Call_Name_kw (ld_blt I hgl hml Pv.boot_list ?_)
  refine PyProof.Rows.callWith_type1 (T := "list") ?_ hs' rfl
  rw [hs']
  show wpAny _ _ (spliced ((false, eval (.Call (.Name "zip" p2) [e, e2] [] pos2) X.env) :: backTo pos (starEach [] X.env))) _ _ s
  refine Calls.spliced_cons ?_
  refine wpAny_Call_Name_kw (ld_blt I hg hm PyProof.Rows.boot_zip ?_)
  refine PyProof.Rows.callWith_type1 (thn (ha.run pos2 pins s σ H _ I h) fun us s1 ⟨vs, H1, I1, r1, q1⟩ => ?_) hs hpl
  obtain ⟨a, b, xs, ys, ex, hx, hy, q⟩ := q1
  subst ex
  cases r1 with
  | cons r rr =>
  cases rr with
  | cons r' rr =>
  cases rr
  cases r
  cases r'
  obtain ⟨o1, Hq1, n1, P1, St1, S1⟩ := src_of I1 hx
  obtain ⟨o2, Hq2, n2, P2, St2, S2⟩ := src_of I1 hy
  refine zip_begins2 S1.beg S2.beg S1.now S2.now fun h1 hz hTI hTO g1 g2 hsz hk => Calls.spliced_nil ?_
  have I2 : Inv X pins σ H1 { s1 with heap := h1 } := I1.kept (t' := s1.toks) hk
  have hh : X.A.handled = none := I1.ok.hd hc
  have lt1 := S1.lt
  have lt2 := S2.lt
  -- the new list
  refine callType_codes (Q₁ := fun obj s₁ => obj = .ref h1.objs.size ∧ s₁ = { s1 with heap := h1.push { cls := .type "list", data := .seq #[] } }) PySem.F.called_list (PySem.F.typeCall_list_1 _) PySem.F.entry_list_init
    (code_list_new _ ⟨rfl, rfl⟩) fun obj s₁ h₁ => ?_
  obtain ⟨rfl, rfl⟩ := h₁
  have fr : H1 h1.objs.size = none := I2.hok.fresh (Nat.le_refl _)
  have I3 : Inv X pins σ (upd H1 h1.objs.size (.lst [])) { s1 with heap := h1.push { cls := .type "list", data := .seq #[] } } := I2.lnew (its := []) (t' := s1.toks) .nil (Nat.zero_le _)
  have hS : (h1.push { cls := .type "list", data := .seq #[] }).get? h1.objs.size = some { cls := .type "list", data := .seq #[] } := Heap.get?_push_size _ rfl
  refine ⟨⟨_, hS, rfl⟩, PySem.F.args_list_init_2 _ _, ?_⟩
  show wpAny _ _ (do let old ← Builtin.List.listItems (.ref h1.objs.size); Builtin.List.listUpdate (.ref h1.objs.size) (fun _ => #[]); letGo old.toList.reverse; Builtin.List.listExtendWith (.ref h1.objs.size) (.ref (s1.heap.objs.size + 4)) .none) _ _ _
  refine wpAny_bind ?_
  unfold Builtin.List.listItems
  refine wpAny_bind (wpAny_seqItems hS rfl (wpAny_pure ?_))
  show wpAny _ _ (updateSeq h1.objs.size (fun _ => #[]) >>= fun _ => letGo (#[] : Array Value).toList.reverse >>= fun _ => Builtin.List.listExtendWith (.ref h1.objs.size) (.ref (s1.heap.objs.size + 4)) .none) _ _ _
  refine wpAny_bind (wpAny_updateSeq hS rfl ?_)
  have I4 := I3.lset (ys := []) (its := []) (its' := []) (t' := s1.toks) (f := fun _ => #[]) upd_same hS rfl .nil (Nat.zero_le _)
  have hS2 := Heap.get?_update_self (Obj.mapSeq (fun _ => (#[] : Array Value))) hS rfl
  refine wpAny_bind (wpAny_letGo ?_)
  have oth0 : ∀ c o, h1.get? c = some o → (h1.push { cls := .type "list", data := .seq #[] }).get? c = some o := fun c o e => Heap.get?_push_of_some _ e
  have oth : ∀ c o, c ≠ h1.objs.size → (h1.push { cls := .type "list", data := .seq #[] }).get? c = some o → ((h1.push { cls := .type "list", data := .seq #[] }).update h1.objs.size (Obj.mapSeq (fun _ => (#[] : Array Value)))).get? c = some o :=
    fun c o hc e => (Heap.get?_update_other _ _ (Ne.symm hc)).trans e
  have nes : ∀ c o, h1.get? c = some o → c ≠ h1.objs.size := fun c o e => Nat.ne_of_lt (Heap.lt_size e)
  have kz : ∀ c o, h1.get? c = some o → ((h1.push { cls := .type "list", data := .seq #[] }).update h1.objs.size (Obj.mapSeq (fun _ => (#[] : Array Value)))).get? c = some o := fun c o e => oth c o (nes c o e) (oth0 c o e)
  have hzT : IsZip ((h1.push { cls := .type "list", data := .seq #[] }).update h1.objs.size (Obj.mapSeq (fun _ => (#[] : Array Value)))) (s1.heap.objs.size + 4) (s1.heap.objs.size + 2) (s1.heap.objs.size + 3) .none := kz _ _ hz
  have hneS : (s1.heap.objs.size + 4 = h1.objs.size) = False := by rw [hsz]; simp
  unfold Builtin.List.listExtendWith
  refine wpAny_bind (wpAny_typeOf (T := "zip") ⟨_, hzT, rfl⟩ ?_)
  have h1' : Builtin.List.listSameRef (.ref h1.objs.size) (.ref (s1.heap.objs.size + 4)) = false := by
    have : h1.objs.size ≠ s1.heap.objs.size + 4 := by omega
    simp [Builtin.List.listSameRef, this]
  have h2' : (Value.type "zip" == Value.type "list") = false := by decide
  have h3' : (Value.type "zip" == Value.type "tuple") = false := by decide
  simp only [h1', h2', h3', Bool.or_false, Bool.false_eq_true, if_false]
  refine wpAny_bind (wpAny_pyIter_zip hzT ?_)
  refine wpAny_bind (wpAny_holding ?_)
  unfold Builtin.List.listLengthHint
  refine wpAny_bind (wpAny_specialOf (T := "zip") ⟨_, hzT, rfl⟩ zip_no_len ?_)
  show wpAny _ _ (specialOf (Value.ref _) (Str.ofString "__length_hint__") >>= _) _ _ _
  refine wpAny_bind (wpAny_specialOf (T := "zip") ⟨_, hzT, rfl⟩ zip_no_hint ?_)
  refine wpAny_pure ?_
  show wpAny _ _ (rule "list.extend.makes-room" >>= fun _ => Builtin.List.listTouch (.ref h1.objs.size) >>= fun _ => again (.builtin "list.extend.loop" ⟨[.ref h1.objs.size, .ref (s1.heap.objs.size + 4), .none], []⟩)) _ _ _
  refine wpAny_bind (wpAny_rule ?_)
  refine wpAny_bind ?_
  show wpAny _ _ (updateSeq h1.objs.size (·.push .none) >>= fun _ => updateSeq h1.objs.size (·.pop)) _ _ _
  refine wpAny_bind (wpAny_updateSeq hS2 rfl ?_)
  have hS3 := Heap.get?_update_self (Obj.mapSeq (·.push Value.none)) hS2 rfl
  refine wpAny_updateSeq (hz := by seq_fits) hS3 rfl ?_
  have hS4 := Heap.get?_update_self (Obj.mapSeq (·.pop)) hS3 rfl
  have I5 := I4.lset (ys := [.non]) (its := []) (its' := [.none]) (t' := s1.toks) (f := (·.push Value.none)) upd_same hS2 rfl (.cons rfl .nil) (by decide)
  have I6 := I5.lset (ys := []) (its := [.none]) (its' := []) (t' := s1.toks) (f := (·.pop)) upd_same hS3 rfl .nil (Nat.zero_le _)
  have hU : ∀ o1 o2 o3 o4 : HO, upd (upd (upd (upd H1 h1.objs.size o1) h1.objs.size o2) h1.objs.size o3) h1.objs.size o4 = upd H1 h1.objs.size o4 := fun o1 o2 o3 o4 => by
    funext c
    by_cases hcS : c = h1.objs.size
    · subst hcS; rw [upd_same, upd_same]
    · rw [upd_ne hcS, upd_ne hcS, upd_ne hcS, upd_ne hcS, upd_ne hcS]
  rw [hU] at I6
  have kz2 : ∀ c o, h1.get? c = some o → ((((h1.push { cls := .type "list", data := .seq #[] }).update h1.objs.size (Obj.mapSeq (fun _ => (#[] : Array Value)))).update h1.objs.size (Obj.mapSeq (·.push Value.none))).update h1.objs.size (Obj.mapSeq (·.pop))).get? c = some o := fun c o e =>
    (Heap.get?_update_other _ _ (Ne.symm (nes c o e))).trans ((Heap.get?_update_other _ _ (Ne.symm (nes c o e))).trans (kz c o e))
  have Sp : ZipSep2 (s1.heap.objs.size + 4) (s1.heap.objs.size + 2) (s1.heap.objs.size + 3) s1.heap.objs.size (s1.heap.objs.size + 1) [s1.heap.objs.size, a] [s1.heap.objs.size + 1, b] :=
    zsep _ _ _ lt1 lt2
  have fp : ∀ c, s1.heap.objs.size ≤ c → c < h1.objs.size → FpOk X pins (upd H1 h1.objs.size (.lst [])) c := fun c h1' h2' => fpOk_upd (I1.fpOk h1' (I1.hok.fresh h1')) (Nat.ne_of_lt h2')
  have szS : ((((h1.push { cls := .type "list", data := .seq #[] }).update h1.objs.size (Obj.mapSeq (fun _ => (#[] : Array Value)))).update h1.objs.size (Obj.mapSeq (·.push Value.none))).update h1.objs.size (Obj.mapSeq (·.pop))).objs.size = h1.objs.size + 1 := by
    rw [Heap.size_update, Heap.size_update, Heap.size_update, Heap.size_push]
  refine wpAny_pure ⟨plainId_quiet PySem.F.plain_extend_loop _, ?_⟩
  refine zip_loop (A := X.A.in1) (St1 := St1 s1.heap.objs.size) (St2 := St2 (s1.heap.objs.size + 1)) (a := a) (b := b) (TI := s1.heap.objs.size + 2) (TO := s1.heap.objs.size + 3) Sp (S1.draws _ (Nat.ne_of_gt lt1) _ hh) (S2.draws _ (Nat.ne_of_gt (Nat.lt_succ_of_lt lt2)) _ hh) S1.at_ S2.at_ ?_ _ ?_ H1 fr (min n1 n2) 0 _ _ [] rfl (Nat.zero_le _) I6 upd_same rfl ?_ ?_ (fun c o e => ?_) (fun j T hj => by simp at hj) ?_
  · simp only [List.mem_cons, List.not_mem_nil, or_false, not_or]
    exact ns7 _ _ _ _ hsz lt1 lt2
  · have h1' := S1.len
    have h2' : xs.length ≤ sizeLine := by
      rcases hx with hx | hx
      · obtain ⟨_, _, _, z⟩ := I1.list hx; exact z
      · obtain ⟨_, _, _, z⟩ := I1.tuple hx; exact z
    omega
  · exact ⟨kz2 _ _ hTI, S1.start _ _ (S1.beg.keeps _ _ S1.now fun c o e => kz2 c o (hk c o e)) (kz2 _ _ g1), S2.start _ _ (S2.beg.keeps _ _ S2.now fun c o e => kz2 c o (hk c o e)) (kz2 _ _ g2), .inl ⟨kz2 _ _ hz, _, _, kz2 _ _ hTO⟩⟩
  · intro c hcm
    have hc2 : s1.heap.objs.size ≤ c ∧ c < h1.objs.size := by
      simp only [List.mem_cons, List.not_mem_nil, or_false] at hcm
      exact in5 _ _ _ hsz hcm
    refine ⟨fp c hc2.1 hc2.2, ?_⟩
    show c < _
    rw [szS]; exact Nat.lt_succ_of_lt hc2.2
  · rw [upd_ne (ne_of_none e fr)]; exact e
  · intro Hc s' Ts I' hS' hl k0 pr
    refine ⟨rfl, .ref _, _, I', (show RelV (.ref h1.objs.size) (.ref h1.objs.size) from rfl), q _ _ Ts k0 fr hS' (by rw [hl, S1.len, S2.len]) pr⟩
end
end EE

/-! layer E, part I: methods that change a slot's list, stores, slices, list(zip(..)) -/
namespace EE
open PySem PySem.Spec
open PyProof.Rows hiding St
open L2

section
variable {K : PySem.W.Frag} {A : Nat → Addr} {σ : L2.St} {H : Hp} {ρ : Rho} {F : Fp} {i : Nat} {d d' : D} {g' : List Addr} {a : Addr} {s : Sl} {o : HO}
theorem EnvR.mutate (e : EnvR K A σ H ρ F) (hs : ρ[i]? = some s) (hd : s.dat = some d) (hv : σ[i]? = some (some (.ref a))) (ha : a ∈ F i) (w : Ow K (upd H a o) (.ref a) d' g') (nd : g'.Nodup) (dj : ∀ b ∈ g', ∀ j, j ≠ i → b ∉ F j) :
    EnvR K A σ (upd H a o) (ρ.set i (wbS s d')) (F.put i g') := by
  have hi := (List.getElem?_eq_some_iff.mp hs).1
  have e1 : EnvR K A σ H (ρ.set i .un) (F.put i []) := e.gone
  have e2 : EnvR K A σ (upd H a o) (ρ.set i .un) (F.put i []) := e1.stay fun b u q z => by
    rw [upd_ne fun h => ?_]
    · exact q
    · subst h
      rcases z with z | ⟨j, z⟩
      · exact e.notFix q z ⟨i, ha⟩
      · by_cases hj : j = i
        · subst hj; rw [Fp.put_same] at z; cases z
        · rw [Fp.put_ne hj] at z; exact hj (e.dj j i b z ha)
  have hdat : (wbS s d').dat = some d' := by cases s <;> rfl
  have e3 := e2.put (σ' := σ) (s' := wbS s d') (d := d') (i := i) (v := .ref a) (g := g') (by simpa using hi) hv (fun _ _ => rfl) hdat w nd (fun b hb j hj z => by rw [Fp.put_ne hj] at z; exact dj b hb j hj z) (fun x hx => by
    cases s with
    | un => cases hd
    | dt y => cases hx
    | io y =>
      have := e.io i y hs
      rw [hv] at this
      exact Option.some.inj (Option.some.inj this)) rfl
  have eF : (F.put i []).put i g' = F.put i g' := by
    funext j
    by_cases hj : j = i
    · subst hj; rw [Fp.put_same, Fp.put_same]
    · rw [Fp.put_ne hj, Fp.put_ne hj, Fp.put_ne hj]
  have eR : (ρ.set i .un).set i (wbS s d') = ρ.set i (wbS s d') := by simp
  rw [eF, eR] at e3
  exact e3
theorem stp_mut {S S' : Addr → Prop} (ha : S a) (hS : ∀ b, S' b → S b) : Stp H S (upd H a o) S' :=
  ⟨fun b u q n => by
    rw [upd_ne fun h => n (by rw [h]; exact ha)]
    exact q, fun b q => .inr (hS b q)⟩
/-- an owned list by its parts -/
theorem Ow.own {v : V} {xs : List D} {g : List Addr} (w : Ow K H v (.nd (.lst true) xs) g) : ∃ (a : Addr) (vs : List V) (fs : List (List Addr)), v = .ref a ∧ H a = some (.lst vs) ∧ vs.length = xs.length ∧ fs.length = xs.length ∧ g = a :: fs.flatten ∧
    ∀ (i : Nat) v d f, vs[i]? = some v → xs[i]? = some d → fs[i]? = some f → Ow K H v d f := by
  cases w with
  | fz w =>
    cases w with
    | nd h1 h2 h3 => exact False.elim h1
  | @nd a k vs _ fs h1 h2 h3 h4 => exact ⟨a, vs, fs, rfl, h1, h2, h3, rfl, h4⟩
theorem Ow.upd {v : V} {x : D} {g : List Addr} (w : Ow K H v x g) (n : a ∉ g) (m : ∀ u, H a = some u → ¬ Fix u) : Ow K (upd H a o) v x g := w.stay fun b u q z => by
  rw [upd_ne fun h => ?_]
  · exact q
  · subst h
    rcases z with z | z
    · exact m u q z
    · exact n z
end

theorem Stp.weakNil {H H' : Hp} {S S' : Addr → Prop} (h : Stp H (plus S []) H' S') : Stp H S H' S' := ⟨fun b o e n => h.1 b o e fun z => n (plus_nil b z), fun b z => (h.2 b z).imp id (plus_nil b)⟩
/-- a slot's list gets other items -/
theorem own_mut {K : PySem.W.Frag} {A : Nat → Addr} {σ : L2.St} {H : Hp} {ρ : Rho} {F : Fp} {i : Nat} {a : Addr} {s : Sl} {xs ys : List D} {vs vs' : List V} {fs' : List (List Addr)} {g : List Addr} (e : EnvR K A σ H ρ F) (hs : ρ[i]? = some s) (hd : s.dat = some (.nd (.lst true) xs))
    (hv : σ[i]? = some (some (.ref a))) (ha : a ∈ F i) (hH : H a = some (.lst vs)) (l1 : vs'.length = ys.length) (l2 : fs'.length = ys.length) (kids : ∀ (j : Nat) v d f, vs'[j]? = some v → ys[j]? = some d → fs'[j]? = some f → Ow K H v d f)
    (nd : fs'.flatten.Nodup) (sub : ∀ b ∈ fs'.flatten, b ∈ F i ∨ b ∈ g) (na : a ∉ fs'.flatten) (dj : ∀ b ∈ g, ¬ fsS F b) :
    EnvR K A σ (upd H a (.lst vs')) (ρ.set i (wbS s (.nd (.lst true) ys))) (F.put i (a :: fs'.flatten)) ∧ ∀ g2 : List Addr, (∀ b ∈ g2, b ∈ F i ∨ b ∈ g) → Stp H (plus (fsS F) g) (upd H a (.lst vs')) (plus (fsS (F.put i (a :: fs'.flatten))) g2) := by
  have nfix : ∀ u, H a = some u → ¬ Fix u := fun u q z => by rw [hH] at q; cases q; exact z
  have wn : Ow K (upd H a (.lst vs')) (.ref a) (.nd (.lst true) ys) (a :: fs'.flatten) :=
    .nd (k := .lst true) (show OwAt _ a (.lst true) _ from upd_same) l1 l2 fun j u y f h1 h2 h3 => (kids j u y f h1 h2 h3).upd (fun z => na (mem_flat h3 z)) nfix
  have sub' : ∀ b ∈ a :: fs'.flatten, b ∈ F i ∨ b ∈ g := fun b hb => by
    rcases List.mem_cons.mp hb with rfl | hb
    · exact .inl ha
    · exact sub b hb
  refine ⟨e.mutate hs hd hv ha wn (List.nodup_cons.mpr ⟨na, nd⟩) fun b hb j hj z => ?_, fun g2 hg2 => stp_mut (S := plus (fsS F) g) (.inl ⟨i, ha⟩) fun b q => ?_⟩
  · rcases sub' b hb with q | q
    · exact hj (e.dj j i b z q)
    · exact dj b q ⟨j, z⟩
  · rcases q with q | q
    · rcases Fp.put_sub q with q | q
      · exact .inl q
      · exact (sub' b q).imp (fun q => ⟨i, q⟩) id
    · exact (hg2 b q).imp (fun q => ⟨i, q⟩) id

section
variable {X : Cx} {Γ : Ct}
def isOwn (ρ : Rho) (i : Nat) : Bool := match slot ρ i with
  | some (.nd (.lst true) _) => true
  | _ => false
/-- what a slot's own list is changed by -/
def chg (i : Nat) (m : List D → Option (List D × D)) (ρ : Rho) : Out R := match ρ[i]? with
  | some s => (match s.dat with
    | some (.nd (.lst true) xs) => (match m xs with
      | some (ys, z) => .ok (.val z) (ρ.set i (wbS s (.nd (.lst true) ys)))
      | none => .no)
    | _ => .no)
  | none => .no
theorem chg_ok {A : Nat → Addr} {σ : L2.St} {H H1 : Hp} {S : Addr → Prop} {ρ1 : Rho} {F1 : Fp} {i : Nat} {m : List D → Option (List D × D)} {Q : VK} {a : Addr} {P : Prop} (h : Go Γ A (ResR Γ.K) σ H S (chg i m ρ1) Q) (e1 : EnvR Γ.K A σ H1 ρ1 F1) (hσ : σ[i]? = some (some (.ref a)))
    (hk : ∀ (s : Sl) (xs : List D) (vs : List V) (fs : List (List Addr)) (ys : List D) (z : D), ρ1[i]? = some s → s.dat = some (.nd (.lst true) xs) → H1 a = some (.lst vs) → vs.length = xs.length → fs.length = xs.length → F1 i = a :: fs.flatten → a ∉ fs.flatten → fs.flatten.Nodup → a ∈ F1 i → (∀ (j : Nat) v d f, vs[j]? = some v → xs[j]? = some d → fs[j]? = some f → Ow Γ.K H1 v d f) → m xs = some (ys, z) →
      Go Γ A (ResR Γ.K) σ H S (.ok (.val z) (ρ1.set i (wbS s (.nd (.lst true) ys)))) Q → P) : P := by
  unfold chg at h
  split at h
  · rename_i s hs
    split at h
    · rename_i xs hd'
      split at h
      · rename_i ys z hm
        obtain ⟨v', hv', w⟩ := e1.rep i s _ hs hd'
        rw [hσ] at hv'; cases hv'
        obtain ⟨a', vs, fs, ea, hH1, l1, l2, hF, kids⟩ := w.own
        cases ea
        have ndF := e1.nd i
        rw [hF] at ndF
        obtain ⟨na, ndf⟩ := List.nodup_cons.mp ndF
        exact hk s xs vs fs ys z hs hd' hH1 l1 l2 hF na ndf (by rw [hF]; exact List.mem_cons_self) kids hm h
      · exact False.elim h
    · exact False.elim h
  · exact False.elim h
/-- the receiver as a value -/
theorem isOwn_at {A : Nat → Addr} {σ : L2.St} {H : Hp} {ρ : Rho} {F : Fp} {i : Nat} (e : EnvR Γ.K A σ H ρ F) (h : isOwn ρ i = true) : ∃ (a : Addr) (xs : List V), σ[i]? = some (some (.ref a)) ∧ H a = some (.lst xs) := by
  unfold isOwn at h
  split at h
  · rename_i xs hs
    obtain ⟨s, h1, h2, _⟩ := slot_at hs
    obtain ⟨v, hv, w⟩ := e.rep i s _ h1 h2
    obtain ⟨a, vs, fs, rfl, q, _⟩ := w.own
    exact ⟨a, vs, hv, q⟩
  · cases h
theorem tyV_own {K : PySem.W.Frag} {a : Addr} {xs : List V} {H : Hp} (h : H a = some (.lst xs)) : tyV K "list" (.ref a) H := .inl ⟨rfl, xs, SqL.of h⟩
/-- append -/
def mApp (d : D) (xs : List D) : Option (List D × D) := if xs.length < sizeLine then some (xs ++ [d], .non) else none
def appB (i : Nat) (r : R) (ρ : Rho) : Out R := match r with
  | .val d => chg i (mApp d) ρ
  | .bor _ => .no
def fApp (i : Nat) (f : FE) : FE := fun ρ => if isOwn ρ i then (f ρ).bind (appB i) else .no
theorem x_append {i : Nat} {x : Str} {e : Expr} {f : FE} {p apos cpos : Pos} (hN : X.N[i]? = some x) (hv : Vis X.env.scope x) (he : XE' X Γ e f) (hd : (x == ("__debug__" : Str)) = false := by decide) (hcd : (x == ("__classdict__" : Str)) = false := by decide)
    (hbase : attributeBase (.Name x p) "append" X.env (eval (.Name x p) X.env) = eval (.Name x p) X.env := by rfl)
    (hfew : ((backTo cpos (starEach [e] X.env)).all (fun x => !x.1) && (backToKw cpos (keywordEach [] X.env)).all (fun x => x.1.isSome)
      && decide ([e].length + ([] : List Keyword).length + (if ([] : List Keyword).isEmpty then 0 else 1) < 30)) = true := by rfl)
    (hline : (apos.endLine == cpos.line) = true := by rfl) (hs : starEach [e] X.env = (false, eval e X.env) :: starEach [] X.env := by rfl) :
    XE' X Γ (.Call (.Attribute (.Name x p) "append" apos) [e] [] cpos) (fApp i f) := by
  refine PE.imp (pe_bm PySem.F.plainAttrs_list PySem.F.slot_list_append PySem.F.type_list_append mt_append (pe_var hN hv hd hcd) (pa_cons he pa_nil hs) hbase hfew hline hs rfl) fun σ H Q ⟨ρ, A, F, e, h⟩ => ?_
  unfold fApp at h
  split at h
  · rename_i how
    obtain ⟨a, vs0, hσ, hH0⟩ := isOwn_at e how
    refine ⟨_, hσ, tyV_own hH0, ρ, A, F, e, Go.bind h Stp.refl fun r ρ1 v H1 F1 g1 _ e1 st1 q1 h1 => ?_⟩
    cases r with
    | bor j => exact False.elim h1
    | val d =>
      refine chg_ok h1 e1 hσ fun s xs vs fs ys z hs hd' hH1 l1 l2 hF na ndf haF kids hm h2 => ?_
      unfold mApp at hm
      split at hm
      · rename_i hsz
        cases hm
        obtain ⟨wd, ndd, djd⟩ := q1
        have fl : (fs ++ [g1]).flatten = fs.flatten ++ g1 := by simp
        obtain ⟨e2, st2⟩ := own_mut (vs' := vs ++ [v]) (ys := xs ++ [d]) (fs' := fs ++ [g1]) (g := g1) e1 hs hd' hσ haF hH1 (by simp [l1]) (by simp [l2]) (fun j u y f h1 h2 h3 => by
          by_cases hj : j < vs.length
          · rw [List.getElem?_append_left hj] at h1
            rw [List.getElem?_append_left (by omega)] at h2 h3
            exact kids j u y f h1 h2 h3
          · have hjj : j = vs.length := by
              have := (List.getElem?_eq_some_iff.mp h1).1
              simp at this; omega
            subst hjj
            rw [List.getElem?_append_right (Nat.le_refl _), Nat.sub_self] at h1
            rw [l1, List.getElem?_append_right (Nat.le_refl _), Nat.sub_self] at h2
            rw [l1, ← l2, List.getElem?_append_right (Nat.le_refl _), Nat.sub_self] at h3
            cases h1; cases h2; cases h3
            exact wd) (by rw [fl]; exact List.nodup_append.mpr ⟨ndf, ndd, fun b hb c hc q => by subst q; exact djd b hc ⟨i, by rw [hF]; exact List.mem_cons_of_mem _ hb⟩⟩)
          (fun b hb => by
            rw [fl] at hb
            rcases List.mem_append.mp hb with hb | hb
            · exact .inl (by rw [hF]; exact List.mem_cons_of_mem _ hb)
            · exact .inr hb) (fun z => by
            rw [fl] at z
            rcases List.mem_append.mp z with z | z
            · exact na z
            · exact djd a z ⟨i, haF⟩) djd
        exact ⟨a, vs, v, rfl, rfl, hH1, by rw [l1]; exact hsz, Go.ok (g := []) h2 e2 (st1.trans (st2 [] fun b hb => nomatch hb)) ⟨.fz .non, List.nodup_nil, fun b hb => nomatch hb⟩⟩
      · cases hm
  · exact False.elim h
end
end EE
namespace EE
open PySem PySem.Spec
section
open PySem.AutoSeq1
theorem list_extW (T : String) (hT : T = "list" ∨ T = "tuple") (l : Addr) (items : Array Value) (n : Nat) (b : Addr) (items2 : Array Value) (n2 : Nat) (dd : Option Addr) (sl : Array (Option Value)) (hs0 : ¬(!items.isEmpty && Builtin.List.listTooLong (items.size + items2.size)) = true) (hs1 : items.size ≤ sizeLine) (hs2 : items.size + items2.size ≤ sizeLine + 1 := by seq_fits) :
    Meets (Builtin.«list.extend» ⟨[.ref l, .ref b], []⟩) (fun _ R s => s.heap.get? l = some { cls := .type "list", dict := none, data := .seq items n, slots := #[] } ∧ s.heap.get? b = some { cls := .type T, dict := dd, data := .seq items2 n2, slots := sl } ∧ R (.ok (.ret Value.none)) { s with heap := s.heap.update l (Obj.mapSeq fun x => x ++ items2), toks := s.toks }) := by
  rcases hT with rfl | rfl
  · exact .of_wp fun prog w A R s h => by
      obtain ⟨hp, g, d, tk, os⟩ := s; obtain ⟨hl, hb, h⟩ := h; have f1 := idx_int; have f2 := sub_tuple_tuple; have f3 := sub_list_list; have f4 := sub_tuple_list; have f5 := sub_list_tuple;
      have hz' : (items ++ items2).size ≤ sizeLine + 1 := by rw [Array.size_append]; exact hs2
      wp_walk using (wpAny_updateSeq hl rfl (hz := hs1) (_hz' := hz')), wpAny_loadPart' hl, wpAny_loadPart' hb; exact ⟨_, rfl, h⟩
  · exact .of_wp fun prog w A R s h => by
      obtain ⟨hp, g, d, tk, os⟩ := s; obtain ⟨hl, hb, h⟩ := h; have f1 := idx_int; have f2 := sub_tuple_tuple; have f3 := sub_list_list; have f4 := sub_tuple_list; have f5 := sub_list_tuple;
      have hz' : (items ++ items2).size ≤ sizeLine + 1 := by rw [Array.size_append]; exact hs2
      wp_walk using (wpAny_updateSeq hl rfl (hz := hs1) (_hz' := hz')), wpAny_loadPart' hl, wpAny_loadPart' hb; exact ⟨_, rfl, h⟩
end
end EE
namespace EE
open PySem PySem.Spec
open PyProof.Rows hiding St
open L2
section
variable {X : Cx} {Γ : Ct}
/-- extend: by a list or a tuple -/
def rExtA (K : PySem.W.Frag) : V → List V → Hp → VK → Prop := fun x vs H Q => ∃ l b xs zs, x = .ref l ∧ vs = [.ref b] ∧ H l = some (.lst xs) ∧ (SqL K H b zs ∨ SqT K H b zs) ∧ xs.length + zs.length ≤ sizeLine ∧ Q .non (upd H l (.lst (xs ++ zs)))
theorem mt_extA : MtM X "list.extend" (rExtA X.K) := by
  intro pins s σ H x vs v us Q I rx rv h
  obtain ⟨l, b, xs, zs, rfl, rfl, hH, hB, hz, q⟩ := h
  cases rx
  obtain ⟨u, rfl, ru⟩ := rv.one
  cases ru
  obtain ⟨z, its, n, r, hl, e⟩ := I.lstM hH
  have key : ∃ (T : String) (its2 : List Value) (n2 : Nat) (dd : Option Addr) (sl : Array (Option Value)), (T = "list" ∨ T = "tuple") ∧ Vals zs its2 ∧ s.heap.get? b = some { cls := .type T, dict := dd, data := .seq its2.toArray n2, slots := sl } := by
    rcases hB with hB | hB
    · obtain ⟨its2, r2, ⟨⟨cls2, dd2, data2, sl2⟩, n2, ho2, hc2, hdn2, hd2⟩, _⟩ := I.list hB
      simp only at hc2 hd2
      subst hc2 hd2
      exact ⟨_, _, _, _, _, .inl rfl, r2, ho2⟩
    · obtain ⟨its2, r2, ⟨⟨cls2, dd2, data2, sl2⟩, ho2, hc2, n2, hd2⟩, _⟩ := I.tuple hB
      simp only at hc2 hd2
      subst hc2 hd2
      exact ⟨_, _, _, _, _, .inr rfl, r2, ho2⟩
  obtain ⟨T, its2, n2, dd, sl, hT, r2, e2⟩ := key
  have hl2 := r2.length
  have hsz : its.toArray.size + its2.toArray.size ≤ sizeLine := by rw [List.size_toArray, List.size_toArray]; omega
  have hlong : ¬ (!its.toArray.isEmpty && Builtin.List.listTooLong (its.toArray.size + its2.toArray.size)) = true := by
    rw [notLongL hsz, Bool.and_false]
    exact Bool.false_ne_true
  refine call_meets PySem.F.slot_list_extend ⟨_, e, rfl⟩ PySem.F.entry_list_extend (PySem.F.args_list_extend_2 _ _)
    (list_extW T hT l its.toArray n b its2.toArray n2 dd sl hlong (by rw [List.size_toArray]; omega) (by omega)) ⟨e, e2, ?_⟩
  refine ⟨.non, _, I.lset (its' := its ++ its2) hH e (by simp) (r.append r2) ?_, rfl, q⟩
  rw [List.length_append]
  omega
def mExt (zs xs : List D) : Option (List D × D) := if xs.length + zs.length ≤ sizeLine ∧ D.isFL zs = true then some (xs ++ zs, .non) else none
def extB (i : Nat) (r : R) (ρ : Rho) : Out R := match rd ρ r with
  | some d => (match seqOf d with
    | some zs => chg i (mExt zs) ρ
    | none => .no)
  | none => .no
def fExt (i : Nat) (f : FE) : FE := fun ρ => if isOwn ρ i then (f ρ).bind (extB i) else .no
theorem Ow.seq {K : PySem.W.Frag} {H : Hp} {v : V} {d : D} {xs : List D} {g : List Addr} (w : Ow K H v d g) (h : seqOf d = some xs) : ∃ (a : Addr) (vs : List V), v = .ref a ∧ (SqL K H a vs ∨ SqT K H a vs) ∧ vs.length = xs.length ∧ ∀ (i : Nat) v d, vs[i]? = some v → xs[i]? = some d → ∃ g', Ow K H v d g' := by
  unfold seqOf at h
  split at h <;> cases h
  · obtain ⟨a, vs, rfl, h1, h2, h3⟩ := w.tpl
    exact ⟨a, vs, rfl, .inr h1, h2, h3⟩
  · obtain ⟨a, vs, rfl, h1, h2, h3⟩ := w.lst
    exact ⟨a, vs, rfl, .inl h1, h2, h3⟩
theorem x_extend {i : Nat} {x : Str} {e : Expr} {f : FE} {p apos cpos : Pos} (hN : X.N[i]? = some x) (hv : Vis X.env.scope x) (fit : Γ.K = X.K) (he : XE' X Γ e f) (hd : (x == ("__debug__" : Str)) = false := by decide) (hcd : (x == ("__classdict__" : Str)) = false := by decide)
    (hbase : attributeBase (.Name x p) "extend" X.env (eval (.Name x p) X.env) = eval (.Name x p) X.env := by rfl)
    (hfew : ((backTo cpos (starEach [e] X.env)).all (fun x => !x.1) && (backToKw cpos (keywordEach [] X.env)).all (fun x => x.1.isSome)
      && decide ([e].length + ([] : List Keyword).length + (if ([] : List Keyword).isEmpty then 0 else 1) < 30)) = true := by rfl)
    (hline : (apos.endLine == cpos.line) = true := by rfl) (hs : starEach [e] X.env = (false, eval e X.env) :: starEach [] X.env := by rfl) :
    XE' X Γ (.Call (.Attribute (.Name x p) "extend" apos) [e] [] cpos) (fExt i f) := by
  refine PE.imp (pe_bm PySem.F.plainAttrs_list PySem.F.slot_list_extend PySem.F.type_list_extend mt_extA (pe_var hN hv hd hcd) (pa_cons he pa_nil hs) hbase hfew hline hs rfl) fun σ H Q ⟨ρ, A, F, e, h⟩ => ?_
  unfold fExt at h
  split at h
  · rename_i how
    obtain ⟨a, vs0, hσ, hH0⟩ := isOwn_at e how
    refine ⟨_, hσ, tyV_own hH0, ρ, A, F, e, Go.bind h Stp.refl fun r ρ1 v H1 F1 g1 _ e1 st1 q1 h1 => ?_⟩
    unfold extB at h1
    split at h1
    · rename_i d hd'
      split at h1
      · rename_i zs hzs
        obtain ⟨g, w⟩ := q1.read e1 hd'
        obtain ⟨b, us, rfl, hB, l3, k3⟩ := w.seq hzs
        refine chg_ok h1 e1 hσ fun s xs vs fs ys z hs hd' hH1 l1 l2 hF na ndf haF kids hm h2 => ?_
        unfold mExt at hm
        split at hm
        · rename_i hc
          cases hm
          have fl : (fs ++ List.replicate zs.length []).flatten = fs.flatten := by simp
          obtain ⟨e2, st2⟩ := own_mut (vs' := vs ++ us) (ys := xs ++ zs) (fs' := fs ++ List.replicate zs.length []) (g := []) e1 hs hd' hσ haF hH1 (by simp [l1, l3]) (by simp [l2]) (fun j u y f h1 h2 h3 => by
            by_cases hj : j < vs.length
            · rw [List.getElem?_append_left hj] at h1
              rw [List.getElem?_append_left (by omega)] at h2 h3
              exact kids j u y f h1 h2 h3
            · rw [List.getElem?_append_right (by omega)] at h1
              rw [List.getElem?_append_right (by omega)] at h2 h3
              have : f = [] := List.eq_of_mem_replicate (List.mem_of_getElem? h3)
              subst this
              rw [← l1] at h2
              exact .fz (kids_fz k3 hc.2 _ _ _ h1 h2)) (by rw [fl]; exact ndf)
            (fun b hb => by
              rw [fl] at hb
              exact .inl (by rw [hF]; exact List.mem_cons_of_mem _ hb)) (by rw [fl]; exact na) (fun b hb => nomatch hb)
          refine ⟨a, b, vs, us, rfl, rfl, hH1, by rw [← fit]; exact hB, by rw [l1, l3]; exact hc.1, Go.ok (g := []) h2 e2 ?_ ⟨.fz .non, List.nodup_nil, fun b hb => nomatch hb⟩⟩
          exact (st1.sub fun b q => .inl (plus_nil b q)).trans (st2 [] fun b hb => nomatch hb)
        · cases hm
      · exact False.elim h1
    · exact False.elim h1
  · exact False.elim h
/-- pop() -/
def mPop (xs : List D) : Option (List D × D) := match xs.getLast? with
  | some z => some (xs.dropLast, z)
  | none => none
def fPop (i : Nat) : FE := fun ρ => if isOwn ρ i then chg i mPop ρ else .no
theorem erase_flat {fs : List (List Addr)} {k : Nat} (hk : k < fs.length) : (fs.eraseIdx k).flatten.Sublist fs.flatten := by
  have e : fs = fs.take k ++ fs[k] :: fs.drop (k + 1) := by rw [List.getElem_cons_drop]; exact (List.take_append_drop k fs).symm
  conv => rhs; rw [e]
  rw [List.eraseIdx_eq_take_drop_succ, List.flatten_append, List.flatten_append, List.flatten_cons]
  exact (List.Sublist.refl _).append (List.sublist_append_right _ _)
theorem flat_one {fs : List (List Addr)} {k : Nat} (hk : k < fs.length) (nd : fs.flatten.Nodup) : fs[k].Nodup := by
  have e : fs = fs.take k ++ fs[k] :: fs.drop (k + 1) := by rw [List.getElem_cons_drop]; exact (List.take_append_drop k fs).symm
  have nd2 : (fs.take k ++ fs[k] :: fs.drop (k + 1)).flatten.Nodup := by rw [← e]; exact nd
  rw [List.flatten_append, List.flatten_cons] at nd2
  exact (List.nodup_append.mp (List.nodup_append.mp nd2).2.1).1
theorem flat_split {fs : List (List Addr)} {k : Nat} (hk : k < fs.length) (nd : fs.flatten.Nodup) : ∀ b ∈ fs[k], b ∉ (fs.eraseIdx k).flatten := by
  intro b hb z
  rw [List.eraseIdx_eq_take_drop_succ] at z
  have e : fs = fs.take k ++ fs[k] :: fs.drop (k + 1) := by rw [List.getElem_cons_drop]; exact (List.take_append_drop k fs).symm
  have nd2 : (fs.take k ++ fs[k] :: fs.drop (k + 1)).flatten.Nodup := by rw [← e]; exact nd
  rw [List.flatten_append, List.flatten_cons] at nd2
  rw [List.flatten_append] at z
  obtain ⟨_, n2, n3⟩ := List.nodup_append.mp nd2
  rcases List.mem_append.mp z with z | z
  · exact n3 b z b (List.mem_append_left _ hb) rfl
  · exact (List.nodup_append.mp n2).2.2 b hb b z rfl
theorem erase_get {α : Type} {xs : List α} {k j : Nat} : (xs.eraseIdx k)[j]? = if j < k then xs[j]? else xs[j + 1]? := by
  rw [List.getElem?_eraseIdx]
/-- an item leaves the list -/
theorem take_mut {K : PySem.W.Frag} {A : Nat → Addr} {σ : L2.St} {H : Hp} {ρ : Rho} {F : Fp} {i : Nat} {a : Addr} {s : Sl} {xs : List D} {vs : List V} {fs : List (List Addr)} {k : Nat} {v : V} {d : D} (e : EnvR K A σ H ρ F) (hs : ρ[i]? = some s) (hd : s.dat = some (.nd (.lst true) xs))
    (hv : σ[i]? = some (some (.ref a))) (hH : H a = some (.lst vs)) (l1 : vs.length = xs.length) (l2 : fs.length = xs.length) (hF : F i = a :: fs.flatten) (na : a ∉ fs.flatten) (nd : fs.flatten.Nodup)
    (kids : ∀ (j : Nat) v d f, vs[j]? = some v → xs[j]? = some d → fs[j]? = some f → Ow K H v d f) (h1 : vs[k]? = some v) (h2 : xs[k]? = some d) :
    ∃ F' g, EnvR K A σ (upd H a (.lst (vs.eraseIdx k))) (ρ.set i (wbS s (.nd (.lst true) (xs.eraseIdx k)))) F' ∧ Stp H (fsS F) (upd H a (.lst (vs.eraseIdx k))) (plus (fsS F') g) ∧ Ow K (upd H a (.lst (vs.eraseIdx k))) v d g ∧ g.Nodup ∧ ∀ b ∈ g, ¬ fsS F' b := by
  have hk := (List.getElem?_eq_some_iff.mp h2).1
  have hkf : k < fs.length := by omega
  have h3 : fs[k]? = some fs[k] := List.getElem?_eq_getElem hkf
  have haF : a ∈ F i := by rw [hF]; exact List.mem_cons_self
  have gsub : ∀ b ∈ fs[k], b ∈ fs.flatten := fun b hb => mem_flat h3 hb
  have esub : ∀ b ∈ (fs.eraseIdx k).flatten, b ∈ fs.flatten := fun b hb => (erase_flat hkf).subset hb
  obtain ⟨e2, st2⟩ := own_mut (vs' := vs.eraseIdx k) (ys := xs.eraseIdx k) (fs' := fs.eraseIdx k) (g := []) e hs hd hv haF hH (by rw [List.length_eraseIdx, List.length_eraseIdx, l1]) (by rw [List.length_eraseIdx, List.length_eraseIdx, l2]) (fun j u y f q1 q2 q3 => by
      rw [erase_get] at q1 q2 q3
      by_cases hj : j < k
      · rw [if_pos hj] at q1 q2 q3; exact kids _ _ _ _ q1 q2 q3
      · rw [if_neg hj] at q1 q2 q3; exact kids _ _ _ _ q1 q2 q3) ((erase_flat hkf).nodup nd) (fun b hb => .inl (by rw [hF]; exact List.mem_cons_of_mem _ (esub b hb))) (fun z => na (esub _ z)) (fun b hb => nomatch hb)
  refine ⟨_, fs[k], e2, (st2 fs[k] fun b hb => .inl (by rw [hF]; exact List.mem_cons_of_mem _ (gsub b hb))).weakNil, (kids k v d _ h1 h2 h3).upd (fun z => na (gsub a z)) (fun u q z => by rw [hH] at q; cases q; exact z), ?_, fun b hb ⟨j, z⟩ => ?_⟩
  · exact flat_one hkf nd
  · by_cases hj : j = i
    · subst hj
      rw [Fp.put_same] at z
      rcases List.mem_cons.mp z with rfl | z
      · exact na (gsub _ hb)
      · exact flat_split hkf nd b hb z
    · rw [Fp.put_ne hj] at z
      exact hj (e.dj j i b z (by rw [hF]; exact List.mem_cons_of_mem _ (gsub b hb)))
theorem getLast_at {α : Type} {xs : List α} {z : α} (h : xs.getLast? = some z) : xs[xs.length - 1]? = some z ∧ xs.dropLast = xs.eraseIdx (xs.length - 1) ∧ 0 < xs.length := by
  have hne : xs ≠ [] := fun e => by rw [e] at h; cases h
  have hl : 0 < xs.length := by (cases xs with | nil => exact absurd rfl hne | cons => exact Nat.succ_pos _)
  refine ⟨by rw [← List.getLast?_eq_getElem?]; exact h, ?_, hl⟩
  rw [List.eraseIdx_eq_take_drop_succ, List.dropLast_eq_take, List.drop_eq_nil_of_le (by omega), List.append_nil]
theorem x_pop {i : Nat} {x : Str} {p apos cpos : Pos} (hN : X.N[i]? = some x) (hv : Vis X.env.scope x) (hd : (x == ("__debug__" : Str)) = false := by decide) (hcd : (x == ("__classdict__" : Str)) = false := by decide)
    (hbase : attributeBase (.Name x p) "pop" X.env (eval (.Name x p) X.env) = eval (.Name x p) X.env := by rfl) (hline : (apos.endLine == cpos.line) = true := by rfl) :
    XE' X Γ (.Call (.Attribute (.Name x p) "pop" apos) [] [] cpos) (fPop i) := by
  refine PE.imp (pe_bm0 PySem.F.plainAttrs_list PySem.F.slot_list_pop PySem.F.type_list_pop mt_pop (pe_var hN hv hd hcd) hbase hline) fun σ H Q ⟨ρ, A, F, e, h⟩ => ?_
  unfold fPop at h
  split at h
  · rename_i how
    obtain ⟨a, vs0, hσ, hH0⟩ := isOwn_at e how
    refine ⟨_, hσ, tyV_own hH0, ?_⟩
    refine chg_ok h e hσ fun s xs vs fs ys z hs hd' hH1 l1 l2 hF na ndf haF kids hm h2 => ?_
    unfold mPop at hm
    split at hm
    · rename_i z' hz
      cases hm
      obtain ⟨k1, k2, k3⟩ := getLast_at hz
      obtain ⟨u, kv⟩ : ∃ u, vs[vs.length - 1]? = some u := ⟨_, List.getElem?_eq_getElem (by omega)⟩
      have ke : vs.dropLast = vs.eraseIdx (vs.length - 1) := by
        rw [List.eraseIdx_eq_take_drop_succ, List.dropLast_eq_take, List.drop_eq_nil_of_le (by omega), List.append_nil]
      obtain ⟨F', g, e2, st2, w, nd, dj⟩ := take_mut (k := xs.length - 1) e hs hd' hσ hH1 l1 l2 hF na ndf kids (by rw [← l1]; exact kv) k1
      refine ⟨a, vs, _, rfl, rfl, hH1, kv, ?_⟩
      rw [ke, l1]
      rw [k2] at h2
      exact Go.ok (g := g) h2 e2 st2 ⟨w, nd, dj⟩
    · cases hm
  · exact False.elim h
/-- pop(k), k a written int -/
def mPopAt (k : Nat) (xs : List D) : Option (List D × D) := match xs[k]? with
  | some z => if xs.length ≤ sizeLine then some (xs.eraseIdx k, z) else none
  | none => none
def popB (i : Nat) (r : R) (ρ : Rho) : Out R := match rd ρ r with
  | some (.int k) => (match slot ρ i with
    | some (.nd _ xs) => (match ixN xs.length k with
      | some j => chg i (mPopAt j) ρ
      | none => .no)
    | _ => .no)
  | _ => .no
def fPopAt (i : Nat) (f : FE) : FE := fun ρ => if isOwn ρ i then (f ρ).bind (popB i) else .no
theorem x_popAt {i : Nat} {x : Str} {e : Expr} {f : FE} {p apos cpos : Pos} (hN : X.N[i]? = some x) (hv : Vis X.env.scope x) (he : XE' X Γ e f) (hd : (x == ("__debug__" : Str)) = false := by decide) (hcd : (x == ("__classdict__" : Str)) = false := by decide)
    (hbase : attributeBase (.Name x p) "pop" X.env (eval (.Name x p) X.env) = eval (.Name x p) X.env := by rfl)
    (hfew : ((backTo cpos (starEach [e] X.env)).all (fun x => !x.1) && (backToKw cpos (keywordEach [] X.env)).all (fun x => x.1.isSome)
      && decide ([e].length + ([] : List Keyword).length + (if ([] : List Keyword).isEmpty then 0 else 1) < 30)) = true := by rfl)
    (hline : (apos.endLine == cpos.line) = true := by rfl) (hs : starEach [e] X.env = (false, eval e X.env) :: starEach [] X.env := by rfl) :
    XE' X Γ (.Call (.Attribute (.Name x p) "pop" apos) [e] [] cpos) (fPopAt i f) := by
  refine PE.imp (pe_bm PySem.F.plainAttrs_list PySem.F.slot_list_pop PySem.F.type_list_pop mt_popAt (pe_var hN hv hd hcd) (pa_cons he pa_nil hs) hbase hfew hline hs rfl) fun σ H Q ⟨ρ, A, F, e, h⟩ => ?_
  unfold fPopAt at h
  split at h
  · rename_i how
    obtain ⟨a, vs0, hσ, hH0⟩ := isOwn_at e how
    refine ⟨_, hσ, tyV_own hH0, ρ, A, F, e, Go.bind h Stp.refl fun r ρ1 v H1 F1 g1 _ e1 st1 q1 h1 => ?_⟩
    unfold popB at h1
    split at h1
    · rename_i k hk
      obtain ⟨g, w⟩ := q1.read e1 hk
      have := w.int
      subst this
      split at h1
      · rename_i kd xs0 hsl
        split at h1
        · rename_i j hj
          refine chg_ok h1 e1 hσ fun s xs vs fs ys z hs hd' hH1 l1 l2 hF na ndf haF kids hm h2 => ?_
          have : xs0 = xs := by
            unfold slot at hsl
            rw [hs] at hsl
            have hsl : s.dat = some (.nd kd xs0) := hsl
            rw [hd'] at hsl; cases hsl; rfl
          subst this
          unfold mPopAt at hm
          split at hm
          · rename_i z' hz
            split at hm <;> cases hm
            rename_i hsz
            obtain ⟨h1', h2', h3', h4'⟩ := ixN_seq hj
            have hn := line63
            have hjl := (List.getElem?_eq_some_iff.mp hz).1
            obtain ⟨u, kv⟩ : ∃ u, vs[j]? = some u := ⟨_, List.getElem?_eq_getElem (by omega)⟩
            obtain ⟨F', g', e2, st2, w', nd, dj⟩ := take_mut (k := j) e1 hs hd' hσ hH1 l1 l2 hF na ndf kids kv hz
            refine ⟨a, vs, k, j, _, rfl, rfl, hH1, by omega, by omega, by rw [l1]; exact h1', kv, ?_⟩
            exact Go.ok (g := g') h2 e2 ((st1.sub fun b q => .inl q).trans st2) ⟨w', nd, dj⟩
          · cases hm
        · exact False.elim h1
      · exact False.elim h1
    · exact False.elim h1
  · exact False.elim h
end
end EE

/-! layer E, part J: stores, slices, list(zip(..)) -/
namespace EE
open PySem PySem.Spec
open PyProof.Rows hiding St
open L2
section
variable {X : Cx} {Γ : Ct}
/-! ### xs[i] = d -/
def stB (i : Nat) (d : D) (r : R) (ρ : Rho) : Out Unit := match rd ρ r with
  | some (.int k) => (match ρ[i]? with
    | some s => (match s.dat with
      | some (.nd (.lst true) xs) => (match ixN xs.length k with
        | some j => .ok () (ρ.set i (wbS s (.nd (.lst true) (xs.set j d))))
        | none => .no)
      | _ => .no)
    | none => .no)
  | _ => .no
def gStore (i : Nat) (fi : FE) : FG := fun d ρ => if isOwn ρ i then (match fi ρ with
  | .ok r ρ1 => stB i d r ρ1
  | _ => .no) else .no
theorem set_flat_sub {fs : List (List Addr)} {g : List Addr} {j : Nat} : ∀ b ∈ (fs.set j g).flatten, b ∈ fs.flatten ∨ b ∈ g := fun b hb => by
  obtain ⟨f, hf, hb⟩ := List.mem_flatten.mp hb
  rcases List.mem_or_eq_of_mem_set hf with h | h
  · exact .inl (List.mem_flatten.mpr ⟨f, h, hb⟩)
  · exact .inr (h ▸ hb)
theorem set_flat_nd {fs : List (List Addr)} {g : List Addr} {j : Nat} (hj : j < fs.length) (nd : fs.flatten.Nodup) (ng : g.Nodup) (dj : ∀ b ∈ g, b ∉ fs.flatten) : (fs.set j g).flatten.Nodup := by
  have e : fs = fs.take j ++ fs[j] :: fs.drop (j + 1) := by rw [List.getElem_cons_drop]; exact (List.take_append_drop j fs).symm
  have nd2 : (fs.take j ++ fs[j] :: fs.drop (j + 1)).flatten.Nodup := by rw [← e]; exact nd
  have dj2 : ∀ b ∈ g, b ∉ (fs.take j ++ fs[j] :: fs.drop (j + 1)).flatten := by rw [← e]; exact dj
  rw [List.set_eq_take_append_cons_drop, if_pos hj]
  rw [List.flatten_append, List.flatten_cons] at nd2 dj2 ⊢
  obtain ⟨n1, n2, n3⟩ := List.nodup_append.mp nd2
  obtain ⟨n4, n5, n6⟩ := List.nodup_append.mp n2
  refine List.nodup_append.mpr ⟨n1, List.nodup_append.mpr ⟨ng, n5, fun a ha b hb q => ?_⟩, fun a ha b hb q => ?_⟩
  · subst q; exact dj2 a ha (List.mem_append_right _ (List.mem_append_right _ hb))
  · subst q
    rcases List.mem_append.mp hb with hb | hb
    · exact dj2 a hb (List.mem_append_left _ ha)
    · exact n3 a ha a (List.mem_append_right _ hb) rfl
theorem g_store {i : Nat} {x : Str} {ix : Expr} {fi : FE} {p pos : Pos} (hN : X.N[i]? = some x) (hv : Vis X.env.scope x) (hi : XE' X Γ ix fi) (hd : (x == ("__debug__" : Str)) = false := by decide) (hcd : (x == ("__classdict__" : Str)) = false := by decide)
    (ha : ∀ v, assign (.Subscript (.Name x p) ix pos) X.env v = (do
      let ov ← holding [v] (eval (.Name x p) X.env)
      let iv ← holding [v, ov] (eval ix X.env)
      standAt pos
      holding [v, ov, iv] (setItem ov iv v)
      release [v, ov, iv] []) := by intro _; rfl) : XG' X Γ (.Subscript (.Name x p) ix pos) (gStore i fi) [] := by
  refine PG.imp (pg_sub (pe_var hN hv hd hcd) hi set_list ha) fun v σ H Q ⟨ρ, A, F, d, g, e, w, nd, dj, h⟩ => ?_
  unfold gStore at h
  split at h
  · rename_i how
    obtain ⟨a, vs0, hσ, hH0⟩ := isOwn_at e how
    refine ⟨_, hσ, ρ, A, F, e, ?_⟩
    cases hf : fi ρ with
    | no => rw [hf] at h; exact h
    | err c fs ρ1 => rw [hf] at h; exact False.elim h
    | ok r ρ1 =>
      rw [hf] at h
      intro y H1 F1 g1 e1 st1 q1
      dsimp only at h
      unfold stB at h
      split at h
      · rename_i k hk
        obtain ⟨gk, wk⟩ := q1.read e1 hk
        have := wk.int
        subst this
        split at h
        · rename_i s hs
          split at h
          · rename_i xs hd'
            split at h
            · rename_i j hj
              have w1 := w.step dj st1 e
              have dj1 : ∀ b ∈ g, ¬ fsS F1 b := fun b hb z => w.apart dj st1 b hb (.inl z)
              obtain ⟨v', hv', w'⟩ := e1.rep i s _ hs hd'
              rw [hσ] at hv'; cases hv'
              obtain ⟨a', vs, fs, ea, hH1, l1, l2, hF, kids⟩ := w'.own
              cases ea
              have ndF := e1.nd i
              rw [hF] at ndF
              obtain ⟨na, ndf⟩ := List.nodup_cons.mp ndF
              have haF : a ∈ F1 i := by rw [hF]; exact List.mem_cons_self
              obtain ⟨_, hjl, _, _⟩ := ixN_seq hj
              have inF : ∀ b ∈ fs.flatten, b ∈ F1 i := fun b hb => by rw [hF]; exact List.mem_cons_of_mem _ hb
              obtain ⟨e2, st2⟩ := own_mut (vs' := vs.set j v) (ys := xs.set j d) (fs' := fs.set j g) (g := g) e1 hs hd' hσ haF hH1 (by simp [l1]) (by simp [l2]) (fun m u z f h1 h2 h3 => by
                  by_cases hm : j = m
                  · subst hm
                    rw [List.getElem?_set_self (by omega)] at h1 h2 h3
                    cases h1; cases h2; cases h3
                    exact w1
                  · rw [List.getElem?_set_ne hm] at h1 h2 h3
                    exact kids m u z f h1 h2 h3) (set_flat_nd (by omega) ndf nd fun b hb z => dj1 b hb ⟨i, inF b z⟩)
                (fun b hb => (set_flat_sub b hb).imp (inF b) id) (fun z => by
                  rcases set_flat_sub a z with z | z
                  · exact na z
                  · exact dj1 a z ⟨i, haF⟩) dj1
              refine ⟨a, vs, k, j, rfl, rfl, hH1, by rw [l1]; exact hj, ?_⟩
              refine h σ _ _ e2 ?_ ⟨rfl, fun _ _ => rfl⟩
              have s1 : Stp H (plus (fsS F) g) H1 (plus (fsS F1) g) := (st1.sub fun b q => .inl q).frame
              exact s1.trans ((st2 [] fun b hb => nomatch hb).sub fun b q => .inl q)
            · exact False.elim h
          · exact False.elim h
        · exact False.elim h
      · exact False.elim h
  · exact False.elim h

/-! ### slices -/
abbrev FO := Rho → Out (Option Int)
def ResO : L2.St → Hp → Fp → Option Int → Option Int → List Addr → Prop := fun _ _ _ b c g => b = c ∧ g = []
def tO (Γ : Ct) (f : FO) : TO := fun σ H Q => ∃ ρ A F, EnvR Γ.K A σ H ρ F ∧ Go Γ A ResO σ H (fsS F) (f ρ) Q
abbrev XO' (X : Cx) (Γ : Ct) (e : Option Expr) (f : FO) : Prop := PO X e (tO Γ f)
def foNo : FO := fun ρ => .ok none ρ
def oint (r : R) (ρ : Rho) : Out (Option Int) := match rd ρ r with
  | some (.int k) => .ok (some k) ρ
  | _ => .no
def foSome (f : FE) : FO := fun ρ => (f ρ).bind oint
theorem xo_none : XO' X Γ none foNo := ⟨fun pins s σ H Q I ⟨ρ, A, F, e, h⟩ => po_none.run pins s σ H Q I (Go.ok (g := []) h e (Stp.refl.sub plus_nil) ⟨rfl, rfl⟩)⟩
theorem xo_some {e : Expr} {f : FE} (he : XE' X Γ e f) : XO' X Γ (some e) (foSome f) := by
  refine ⟨fun pins s σ H Q I ⟨ρ, A, F, e, h⟩ => (po_some he).run pins s σ H Q I ?_⟩
  refine ⟨ρ, A, F, e, Go.bind h Stp.refl fun r ρ1 v H1 F1 g1 _ e1 st1 q1 h1 => ?_⟩
  unfold oint at h1
  split at h1
  · rename_i k hk
    obtain ⟨g, w⟩ := q1.read e1 hk
    exact ⟨k, w.int, Go.ok (g := []) h1 e1 (st1.sub fun c q => .inl (plus_nil c q)) ⟨rfl, rfl⟩⟩
  · exact False.elim h1
def cutD (xs : List D) (lo hi : Option Int) : List D := (xs.drop (HT.sIx xs.length 0 lo)).take (HT.sIx xs.length xs.length hi - HT.sIx xs.length 0 lo)
def slB (r : R) (lo hi : Option Int) (ρ : Rho) : Out R := match rd ρ r with
  | some (.nd .tup xs) => if D.isFL xs then .ok (.val (.nd .tup (cutD xs lo hi))) ρ else .no
  | some (.nd (.lst _) xs) => if D.isFL xs then .ok (.val (.nd (.lst true) (cutD xs lo hi))) ρ else .no
  | _ => .no
def fSl (f : FE) (lo hi : FO) : FE := fun ρ => (f ρ).bind fun r ρ1 => (lo ρ1).bind fun l ρ2 => (hi ρ2).bind fun u ρ3 => slB r l u ρ3
def rSlAny (K : PySem.W.Frag) : V → Option Int → Option Int → Hp → VK → Prop := fun x lo hi H Q => rSlL K x lo hi H Q ∨ rSlA K x lo hi H Q
theorem sl_any : SlR X (rSlAny X.K) := sl_list.or sl_tupA
theorem cut_len {vs : List V} {xs : List D} (l : vs.length = xs.length) (lo hi : Option Int) : (cutV vs lo hi).length = (cutD xs lo hi).length := by
  unfold cutV cutD
  rw [List.length_take, List.length_drop, List.length_take, List.length_drop, l]
theorem cut_kids {K : PySem.W.Frag} {H : Hp} {vs : List V} {xs : List D} (l : vs.length = xs.length) (lo hi : Option Int) (h : ∀ (i : Nat) v d, vs[i]? = some v → xs[i]? = some d → Fz K H v d) :
    ∀ (i : Nat) v d, (cutV vs lo hi)[i]? = some v → (cutD xs lo hi)[i]? = some d → Fz K H v d := fun i v d e1 e2 => by
  unfold cutV at e1
  unfold cutD at e2
  rw [List.getElem?_take] at e1 e2
  split at e1
  · rw [if_pos (by rw [← l]; assumption), List.getElem?_drop] at e2
    rw [List.getElem?_drop, l] at e1
    exact h _ v d e1 e2
  · cases e1
theorem x_slice {e : Expr} {lo hi : Option Expr} {f : FE} {fl fh : FO} {p2 pos : Pos} (hK : Γ.K = X.K) (he : XE' X Γ e f) (hl : XO' X Γ lo fl) (hh : XO' X Γ hi fh) : XE' X Γ (.Subscript e (.Slice lo hi none p2) pos) (fSl f fl fh) := by
  refine PE.imp (pe_slice sl_any he hl hh) fun σ H Q ⟨ρ, A, F, e, h⟩ => ?_
  refine ⟨ρ, A, F, e, Go.bind h Stp.refl fun r ρ1 v H1 F1 g1 _ e1 st1 q1 h1 => ?_⟩
  refine ⟨ρ1, A, F1, e1, Go.bind h1 (st1.sub fun b q => .inl q) fun lo' ρ2 l' H2 F2 g2 _ e2 st2 q2 h2 => ?_⟩
  obtain ⟨rfl, rfl⟩ := q2
  have st2' : Stp H1 (fsS F1) H2 (fsS F2) := st2.sub fun b q => .inl q
  refine ⟨ρ2, A, F2, e2, Go.bind h2 ((st1.sub fun b q => .inl q).trans st2') fun hi' ρ3 u' H3 F3 g3 _ e3 st3 q3 h3 => ?_⟩
  obtain ⟨rfl, rfl⟩ := q3
  have st3' : Stp H2 (fsS F2) H3 (fsS F3) := st3.sub fun b q => .inl q
  have q1' := (q1.step (F' := F3) e1 (st2'.trans st3') fun a z => z)
  have stA : Stp H (fsS F) H3 (fsS F3) := ((st1.sub fun b q => .inl q).trans st2').trans st3'
  unfold slB at h3
  split at h3
  · rename_i xs hx
    split at h3
    · rename_i hf
      obtain ⟨g, w⟩ := q1'.read e3 hx
      obtain ⟨a, vs, rfl, hq, l, kids⟩ := w.tpl
      have kf := kids_fz kids hf
      have pr := h3.new (g0 := []) e3 (stA.sub plus_nil)
      refine .inr ⟨a, vs, rfl, by rw [← hK]; exact hq, fun hw => ?_, fun _ p np => ?_⟩
      · have ec : cutD xs lo' hi' = xs := by
          unfold cutD
          rw [l] at hw
          rw [hw.1, hw.2]
          simp
        rw [ec] at pr
        exact pr.here (.nd (k := .tup) hq l kf)
      · exact pr.newT np (cut_len l _ _) (cut_kids l _ _ kf)
    · exact False.elim h3
  · rename_i xs hx
    split at h3
    · rename_i hf
      obtain ⟨g, w⟩ := q1'.read e3 hx
      obtain ⟨a, vs, rfl, hq, l, kids⟩ := w.lst
      have kf := kids_fz kids hf
      have pr := h3.new (g0 := []) e3 (stA.sub plus_nil)
      exact .inl ⟨a, vs, rfl, by rw [← hK]; exact hq, fun p np => pr.newL np (cut_len l _ _) (cut_kids l _ _ kf)⟩
    · exact False.elim h3
  · exact False.elim h3
/-! ### list(zip(a, b)) -/
def zp (xs ys : List D) : List D := List.zipWith (fun a b => .nd .tup [a, b]) xs ys
def sLZ (ds : List D) : Option D := match ds with
  | [x, y] => (match seqOf x, seqOf y with
    | some xs, some ys => if D.isFL xs = true ∧ D.isFL ys = true then some (.nd (.lst true) (zp xs ys)) else none
    | _, _ => none)
  | _ => none
theorem zip_kids {K : PySem.W.Frag} {H : Hp} {Ts : List Addr} {us ws : List V} {xs ys : List D} (l1 : us.length = xs.length) (l2 : ws.length = ys.length) (k1 : ∀ (i : Nat) v d, us[i]? = some v → xs[i]? = some d → Fz K H v d) (k2 : ∀ (i : Nat) v d, ws[i]? = some v → ys[i]? = some d → Fz K H v d)
    (pr : ∀ (j : Nat) T, Ts[j]? = some T → ∃ x y, us[j]? = some x ∧ ws[j]? = some y ∧ H T = some (.tup [x, y])) : ∀ (i : Nat) v d, (Ts.map V.ref)[i]? = some v → (zp xs ys)[i]? = some d → Fz K H v d := fun i v d e1 e2 => by
  rw [List.getElem?_map] at e1
  cases e : Ts[i]? with
  | none => rw [e] at e1; cases e1
  | some T =>
    rw [e] at e1; cases e1
    obtain ⟨x, y, hx, hy, hT⟩ := pr i T e
    unfold zp at e2
    rw [List.getElem?_zipWith] at e2
    have i1 := (List.getElem?_eq_some_iff.mp hx).1
    have i2 := (List.getElem?_eq_some_iff.mp hy).1
    have hx' : xs[i]? = some (xs[i]'(by omega)) := List.getElem?_eq_getElem _
    have hy' : ys[i]? = some (ys[i]'(by omega)) := List.getElem?_eq_getElem _
    rw [hx', hy'] at e2
    cases e2
    refine .nd (k := .tup) (vs := [x, y]) (SqT.of hT) rfl fun j v d e1 e2 => ?_
    match j with
    | 0 => cases e1; cases e2; exact k1 i _ _ hx hx'
    | 1 => cases e1; cases e2; exact k2 i _ _ hy hy'
    | j + 2 => simp at e1
theorem r_lz {K : PySem.W.Frag} (vs : List V) (H : Hp) (Q : VK) (h : rSemL K sLZ vs H Q) : rLZ K vs H Q := by
  obtain ⟨ds, z, hr, hz, q⟩ := h
  unfold sLZ at hz
  split at hz
  · rename_i x y
    obtain ⟨v, w, g, g', rfl, w1, w2⟩ := hr.two
    split at hz
    · rename_i xs ys hx hy
      split at hz
      · rename_i hf
        cases hz
        obtain ⟨a, us, rfl, ha, l1, k1⟩ := w1.seq hx
        obtain ⟨b, ws, rfl, hb, l2, k2⟩ := w2.seq hy
        refine ⟨a, b, us, ws, rfl, ha, hb, fun p H' Ts k np hp hl pr => ?_⟩
        have f1 := fun i v d e1 e2 => (kids_fz k1 hf.1 i v d e1 e2).stay fun c o e _ => k c o e
        have f2 := fun i v d e1 e2 => (kids_fz k2 hf.2 i v d e1 e2).stay fun c o e _ => k c o e
        have kd := zip_kids l1 l2 f1 f2 pr
        have ll : (Ts.map V.ref).length = (zp xs ys).length := by
          unfold zp
          rw [List.length_map, hl, List.length_zipWith, l1, l2]
        have w : Ow K H' (.ref p) (.nd (.lst true) (zp xs ys)) (p :: (List.replicate (zp xs ys).length []).flatten) := .nd (k := .lst true) (show OwAt H' p (.lst true) _ from hp) ll (by simp) fun i v d f e1 e2 e3 => by
          have : f = [] := List.eq_of_mem_replicate (List.mem_of_getElem? e3)
          subst this
          exact .fz (kd i v d e1 e2)
        rw [List.flatten_replicate_nil] at w
        exact q _ _ [p] k w (by simp) fun a ha => by (have : a = p := by simpa using ha); rw [this]; exact np
      · cases hz
    · cases hz
  · cases hz
theorem x_lz {e e2 : Expr} {fs : FA} {p p2 pos pos2 : Pos} (hK : Γ.K = X.K) (hgl : Gl X "list") (hml : X.mg "list" = none) (hg : Gl X "zip") (hm : X.mg "zip" = none) (hc : X.calm = true) (ha : XA' X Γ [e, e2] fs)
    (hs : starEach [e, e2] X.env = (false, eval e X.env) :: starEach [e2] X.env := by rfl) (hpl : (backTo pos2 (starEach [e2] X.env)).any (·.1) = false := by rfl)
    (hs' : starEach [.Call (.Name "zip" p2) [e, e2] [] pos2] X.env = (false, eval (.Call (.Name "zip" p2) [e, e2] [] pos2) X.env) :: starEach [] X.env := by rfl) :
    XE' X Γ (.Call (.Name "list" p) [.Call (.Name "zip" p2) [e, e2] [] pos2] [] pos) (fCall sLZ fs) :=
  PE.imp (pe_lz hgl hml hg hm hc ha hs hpl hs') (call_go fun v H Q h => by rw [← hK]; exact r_lz v H Q h)
end
end EE

/-! layer E, part K: enumerate, zip as what is gone over, lists and tuples in any mix -/
namespace EE
open PySem PySem.Spec
theorem meets_enum1 {v : Value} {o : Obj} {H : Heap → Prop} (B : Begins v o H) :
    Meets (Builtin.«enumerate.__new__» ⟨[.type "enumerate", v], []⟩) (fun _ R s => H s.heap ∧
      R (.ok (.ret (.ref (s.heap.push o).objs.size))) { s with heap := (s.heap.push o).push { cls := .type "enumerate", data := .fields #[.none, .bool false, .ref s.heap.objs.size, rawInt 0, .none, .none] } }) :=
  .of_wp fun prog w A R s h => by
    obtain ⟨hp, g, d, tk, os⟩ := s; obtain ⟨h1, h⟩ := h
    have hsub := sub_enumerate
    have q1 : ∀ {A' : Around} {E : Value → Shared → Prop} {Q : Value → Shared → Prop}, Q (.ref hp.objs.size) ⟨hp.push o, g, d, tk, os⟩ → wpAny (model prog w) A' (pyIter v) Q E ⟨hp, g, d, tk, os⟩ :=
      fun q => B.iter prog w _ _ ⟨hp, g, d, tk, os⟩ _ h1 q
    wp_walk using q1
    refine wpAny_stack_any fun st => wpAny_pure ?_
    split
    · rename_i c _ _ _ _ _
      cases (c == Value.type "enumerate")
      · wp_walk using q1
        exact ⟨_, rfl, h⟩
      · wp_walk using q1
        exact ⟨_, rfl, h⟩
    · wp_walk using q1
      exact ⟨_, rfl, h⟩
theorem enum_begins1 {prog : Program} {w : World} {A : Around} {E : Value → Shared → Prop} {s : Shared} {v : Value} {o : Obj} {H : Heap → Prop} {Q : Value → Shared → Prop} (B : Begins v o H) (h1 : H s.heap)
    (h : ∀ h', IsEnum h' (s.heap.objs.size + 1) s.heap.objs.size 0 .none → h'.get? s.heap.objs.size = some o → h'.objs.size = s.heap.objs.size + 2 →
      (∀ b o, s.heap.get? b = some o → h'.get? b = some o) → Q (.ref (s.heap.objs.size + 1)) { s with heap := h' }) :
    wpAny (model prog w) A (call (.type "enumerate") [v]) Q E s := by
  refine callType_new F.called_enumerate (by decide) (F.typeCall_enumerate_1 _) (F.newCall_enumerate_1 _) (fun obj => F.args_object_init_2 obj _) F.entry_enumerate_new
    (meets_enum1 B) ⟨h1, ?_⟩
  have hz : (s.heap.push o).objs.size = s.heap.objs.size + 1 := Heap.size_push ..
  show _ ∧ _
  rw [hz]
  have he : IsEnum ((s.heap.push o).push { cls := .type "enumerate", data := .fields #[.none, .bool false, .ref s.heap.objs.size, rawInt 0, .none, .none] }) (s.heap.objs.size + 1) s.heap.objs.size 0 .none := by
    have := Heap.get?_push_size (s.heap.push o) (o := { cls := .type "enumerate", data := .fields #[.none, .bool false, .ref s.heap.objs.size, rawInt 0, .none, .none] }) rfl
    rw [hz] at this; exact this
  refine ⟨⟨_, he, rfl⟩, h _ he (Heap.get?_push_of_some _ (Heap.get?_push_size _ B.free)) (by rw [Heap.size_push, hz]) fun b o x => Heap.get?_push_of_some _ (Heap.get?_push_of_some _ x)⟩
end EE
namespace EE
open PySem PySem.Spec
open PyProof.Rows hiding St
open L2

/-- a list (true) or a tuple (false) -/
def SqK (K : PySem.W.Frag) (k : Bool) (H : Hp) (a : Addr) (xs : List V) : Prop := match k with
  | true => SqL K H a xs
  | false => SqT K H a xs
def IsK (k : Bool) (h : Heap) (a : Addr) (its : Array Value) : Prop := match k with
  | true => h.IsList a its
  | false => h.IsTuple a its
def ItK (k : Bool) (h : Heap) (it a : Addr) (i : Nat) : Prop := match k with
  | true => h.IsListIter it a i
  | false => h.IsTupleIter it a i
def bgK (k : Bool) (a : Addr) : Obj := match k with
  | true => { cls := .type "list_iterator", data := .fields #[.ref a, .int 0 0] }
  | false => { cls := .type "tuple_iterator", data := .fields #[.ref a, .int 0 0] }
theorem IsK.lt {k : Bool} {h : Heap} {a : Addr} {its : Array Value} (q : IsK k h a its) : a < h.objs.size := by
  cases k with
  | true => obtain ⟨o, ho, _⟩ := id q; exact Heap.lt_size ho
  | false => obtain ⟨o, ho, _⟩ := id q; exact Heap.lt_size ho
theorem ItK.lt {k : Bool} {h : Heap} {it a : Addr} {i : Nat} (q : ItK k h it a i) : it < h.objs.size := by
  cases k with
  | true => obtain ⟨o, ho, _⟩ := id q; exact Heap.lt_size ho
  | false => obtain ⟨o, ho, _⟩ := id q; exact Heap.lt_size ho
theorem ItK.at {k : Bool} {h h' : Heap} {it a : Addr} {i : Nat} (q : ItK k h it a i) (e : ∀ o, h.get? it = some o → h'.get? it = some o) : ItK k h' it a i := by
  cases k with
  | true => exact Heap.IsListIter.at q e
  | false => exact Heap.IsTupleIter.at q e
theorem IsK.at {k : Bool} {h h' : Heap} {a : Addr} {its : Array Value} (q : IsK k h a its) (e : ∀ o, h.get? a = some o → h'.get? a = some o) : IsK k h' a its := by
  cases k with
  | true => exact Heap.IsList.at q e
  | false => exact Heap.IsTuple.at q e
theorem ItK.obj {k : Bool} {h : Heap} {it a : Addr} {i : Nat} (q : ItK k h it a i) : ∃ o, h.get? it = some o ∧ ∀ v, o.data ≠ .cell v := by
  cases k with
  | true => obtain ⟨o, ho, _, hd⟩ := id q; exact ⟨o, ho, fun v z => by rw [hd] at z; cases z⟩
  | false => obtain ⟨o, ho, _, hd⟩ := id q; exact ⟨o, ho, fun v z => by rw [hd] at z; cases z⟩
theorem ItK.ne_seq {k : Bool} {h : Heap} {it a : Addr} {i : Nat} {its : Array Value} (q : ItK k h it a i) (p : IsK k h a its) : it ≠ a := fun e => by
  subst e
  cases k with
  | true => obtain ⟨o, ho, hc, _⟩ := id q; obtain ⟨o', ho', hc', _⟩ := id p; rw [ho] at ho'; cases ho'; rw [hc] at hc'; exact absurd hc' (by decide)
  | false => obtain ⟨o, ho, hc, _⟩ := id q; obtain ⟨o', ho', hc', _⟩ := id p; rw [ho] at ho'; cases ho'; rw [hc] at hc'; exact absurd hc' (by decide)
theorem begK (k : Bool) (a : Addr) (its : Array Value) : Begins (.ref a) (bgK k a) fun h => IsK k h a its := by
  cases k with
  | true => exact begins_list a its
  | false => exact begins_tuple a its
theorem startK {k : Bool} {h : Heap} {it a : Addr} (e : h.get? it = some (bgK k a)) : ItK k h it a 0 := by
  cases k with
  | true => exact ⟨_, e, rfl, rfl⟩
  | false => exact ⟨_, e, rfl, rfl⟩
theorem drawsK {prog : Program} {w : World} {A : Around} (k : Bool) (hh : A.handled = none) (it a : Addr) (hne : a ≠ it) (its : Array Value) :
    Draws prog w A it [it, a] its.size (fun i v => its[i]? = some v) (fun i h => ItK k h it a i ∧ IsK k h a its) := by
  cases k with
  | true => exact Draws.list hh it a hne its
  | false => exact Draws.tuple hh it a hne its
section
variable {X : Cx} {pins : List (Addr × Obj)} {σ : L2.St} {H : Hp} {s : Shared} {a : Addr} {xs ys : List V} {k : Bool}
theorem sqK_at (I : Inv X pins σ H s) (h : SqK X.K k H a xs) : ∃ its : List Value, Vals xs its ∧ IsK k s.heap a its.toArray ∧ xs.length ≤ sizeLine := by
  cases k with
  | true => obtain ⟨its, r, p, z⟩ := I.list h; exact ⟨its, r, p.isList, z⟩
  | false => obtain ⟨its, r, p, z⟩ := I.tuple h; exact ⟨its, r, p, z⟩
theorem sqK_inj (I : Inv X pins σ H s) (h : SqK X.K k H a xs) (h' : SqK X.K k H a ys) : xs = ys := by
  cases k with
  | true => exact I.list_inj h h'
  | false => exact I.tuple_inj h h'
end
/-! ### enumerate -/
def IteK (K : PySem.W.Frag) (k : Bool) (a : Addr) (n : Nat) : It :=
  ⟨fun i H => ∃ (xs : List V) (x : V), SqK K k H a xs ∧ xs[i]? = some x ∧ xs.length = n, fun i H v H' => ∃ T x, v = .ref T ∧ H T = none ∧ H' = upd H T (.tup [.int (i : Nat), x]) ∧ ∀ xs, SqK K k H a xs → xs[i]? = some x, fun i H => ∃ xs : List V, SqK K k H a xs ∧ xs.length = n ∧ n ≤ i⟩
theorem turn_enumK {P : Program} {w : World} {K : PySem.W.Frag} {elts : List Expr} {kk : Nat} {tpos : Pos} (k : Bool) (a e it : Addr) (n : Nat) (hne : e ≠ it) (hea : e ≠ a) (hia : a ≠ it) :
    Turn P w K (.Tuple elts kk tpos) (IteK K k a n) [e, it] e (fun i h => (∃ old, IsEnum h e it ((i : Nat) : Int) old) ∧ ItK k h it a i ∧ i ≤ n) where
  mem := by simp
  obj := fun i h st b hb => by
    obtain ⟨⟨old, he⟩, hi, _⟩ := st
    have e' : b = e ∨ b = it := by simpa using hb
    rcases e' with z | z
    · rw [z]; exact ⟨_, he, fun v q => nomatch q⟩
    · rw [z]; exact hi.obj
  keep := fun i h h' st kp => let ⟨⟨old, he⟩, hi, hn⟩ := st; ⟨⟨old, kp e (by simp) _ he⟩, hi.at fun o q => kp it (by simp) o q, hn⟩
  item := by
    intro X hP hw hK hc i pins s σ H E I hf st hg
    subst hP hw hK
    obtain ⟨⟨old, he⟩, hit, hin⟩ := st
    obtain ⟨xs, x, hq, hx, hxn⟩ := hg
    obtain ⟨its, rv, p, hz⟩ := sqK_at I hq
    obtain ⟨u, hu, ru⟩ := rv.get hx
    have hel : e < s.heap.objs.size := Heap.lt_size he
    have hil : it < s.heap.objs.size := hit.lt
    have hu' : i < its.toArray.size := by simpa using (List.getElem?_eq_some_iff.mp hu).1
    refine wpAny_pyNext_enum_itemD (drawsK (A := X.A.in1) k (I.ok.hd hc) it a hia its.toArray) he ⟨hit, p⟩ hu' hne (by simp only [List.mem_cons, List.not_mem_nil, or_false, not_or]; exact ⟨hne, hea⟩) fun x' h' tk px ho st' hT hsz hk => ?_
    have : x' = u := by
      have px : its.toArray[i]? = some x' := px
      rw [List.getElem?_toArray, hu] at px; cases px; rfl
    subst this
    obtain ⟨hit', p'⟩ := st'
    refine ⟨_, rfl, wpAny_letOwnedTupleGo_enum (s := { s with heap := h', toks := tk + 1 }) ho fun h'' he' sb => ?_⟩
    have hT2 : h''.get? s.heap.objs.size = some { cls := .type "tuple", data := .seq #[.int i tk, x'] } := (sb.2 _ (Nat.ne_of_gt hel)).trans hT
    have new : ObjOk X.prog X.w (upd H s.heap.objs.size (.tup [.int (i : Nat), x])) h'' s.heap.objs.size (.tup [.int (i : Nat), x]) :=
      ⟨by show 2 ≤ sizeLine; decide, [.int i tk, x'], .cons ⟨_, rfl⟩ (.cons ru .nil), ⟨_, hT2, rfl, _, rfl⟩⟩
    have I1 : Inv X pins σ (upd H s.heap.objs.size (.tup [.int (i : Nat), x])) { s with heap := h'', toks := tk + 1 } :=
      I.turnedNew (ch := [e, it]) (fun b ob hb q => (sb.2 b (fun z => hb (by simp [z]))).trans (hk b ob (fun z => hb (by simp [z])) (fun z => hb (by simp [z])) q)) hf (Nat.le_refl _) new
    refine ⟨.ref s.heap.objs.size, _, I1, rfl, ⟨_, x, rfl, I.hok.fresh (Nat.le_refl _), rfl, fun ys hy => by rw [sqK_inj I hy hq]; exact hx⟩, ⟨⟨x', ?_⟩, hit'.at fun o q => (sb.2 it (Ne.symm hne)).trans q, by (have := rv.length); (have hu2 : i < its.length := by simpa using hu'); omega⟩, fun b hb => ?_⟩
    · have e1 : ((i + 1 : Nat) : Int) = (i : Int) + 1 := by omega
      rw [e1]; exact he'
    · have hb' : b < s.heap.objs.size := by
        have e' : b = e ∨ b = it := by simpa using hb
        rcases e' with z | z
        · rw [z]; exact hel
        · rw [z]; exact hil
      rw [upd_ne (Nat.ne_of_lt hb')]
      exact (hf b hb).1
  done := by
    intro X hP hw hK hc i pins s σ H E I hf st hg
    subst hP hw hK
    obtain ⟨⟨old, he⟩, hit, hin⟩ := st
    obtain ⟨xs, hq, hx, hx2⟩ := hg
    obtain ⟨its, rv, p, hz⟩ := sqK_at I hq
    obtain ⟨f0, f1, f2, f3, f4, f5⟩ := hf it (by simp)
    have hl := rv.length
    have hi : i = its.toArray.size := by rw [List.size_toArray]; omega
    subst hi
    exact wpAny_pyNext_enum_endD (drawsK (A := X.A.in1) k (I.ok.hd hc) it a hia its.toArray) he ⟨hit, p⟩ fun h' eb => ⟨rfl, I.turned (t' := s.toks) (fun b o hb q => eb b o hb q) f0 f1 f3 f4 f5⟩
  self := fun A i s Q E st h => let ⟨⟨_, he⟩, _⟩ := st; wpAny_pyIter_enum he h
def iEnumK (K : PySem.W.Frag) (ta : TA) : TI := fun σ H R => ta σ H fun vs H1 => ∃ k a xs, vs = [.ref a] ∧ SqK K k H1 a xs ∧ R (IteK K k a xs.length) H1
theorem pi_enumK {X : Cx} {e : Expr} {ta : TA} {p pos tpos : Pos} {elts : List Expr} {kk : Nat} (hg : Gl X "enumerate") (hm : X.mg "enumerate" = none) (ha : PA X [e] ta) (hs : starEach [e] X.env = [(false, eval e X.env)] := by rfl) :
    PI X (.Tuple elts kk tpos) (.Call (.Name "enumerate" p) [e] [] pos) (iEnumK X.K ta) := by
  refine ⟨fun pins s σ H R I h => ?_⟩
  refine Call_ (ld_blt I hg hm PyProof.Rows.boot_enumerate (PyProof.Rows.callWith_type1 (thn (ha.run pos pins s σ H _ I h) fun us s1 ⟨vs, H1, I1, r1, q1⟩ => ?_) hs rfl))
  obtain ⟨k, a, xs, ex, hq, q⟩ := q1
  subst ex
  cases r1 with
  | cons r rr =>
    cases rr
    cases r
    obtain ⟨its, rv, p', hz⟩ := sqK_at I1 hq
    refine enum_begins1 (begK k a its.toArray) p' fun h' he hit hsz hk => wpAny_pyIter_enum he ?_
    have I2 : Inv X pins σ H1 { s1 with heap := h' } := I1.kept (t' := s1.toks) hk
    have hlt := p'.lt
    refine ⟨s1.heap.objs.size + 1, [s1.heap.objs.size + 1, s1.heap.objs.size], _, _, H1, rfl, I2, turn_enumK k a (s1.heap.objs.size + 1) s1.heap.objs.size xs.length (Nat.succ_ne_self _) (Nat.ne_of_gt (Nat.lt_succ_of_lt hlt)) (Nat.ne_of_lt hlt), ⟨⟨.none, he⟩, startK hit, Nat.zero_le _⟩, fun b hb => ?_, q⟩
    have e' : b = s1.heap.objs.size + 1 ∨ b = s1.heap.objs.size := by simpa using hb
    have hle : s1.heap.objs.size ≤ b := by
      rcases e' with z | z
      · rw [z]; exact Nat.le_succ _
      · rw [z]; exact Nat.le_refl _
    exact I1.fpOk hle (I1.hok.fresh hle)

section
variable {X : Cx} {Γ : Ct}
/-- a frozen list or tuple by its parts -/
theorem Fz.seq {K : PySem.W.Frag} {H : Hp} {v : V} {d : D} {xs : List D} (w : Fz K H v d) (h : seqOf d = some xs) : ∃ (k : Bool) (a : Addr) (vs : List V), v = .ref a ∧ SqK K k H a vs ∧ vs.length = xs.length ∧ (∀ (i : Nat) v d, vs[i]? = some v → xs[i]? = some d → Fz K H v d) ∧
    ∀ H', (∀ b o, H b = some o → Fix o → H' b = some o) → SqK K k H' a vs := by
  unfold seqOf at h
  split at h <;> cases h
  · cases w with
    | @nd a _ vs _ h1 h2 h3 => exact ⟨false, a, vs, rfl, h1, h2, h3, fun H' kp => SqT.stay h1 kp⟩
  · rename_i b
    cases w with
    | @nd a _ vs _ h1 h2 h3 =>
      cases b with
      | true => exact False.elim h1
      | false => exact ⟨true, a, vs, rfl, SqZ.sq h1, h2, h3, fun H' kp => SqZ.sq (SqZ.stay h1 kp)⟩
def num (n : Nat) : List D → List D
  | [] => []
  | d :: ds => .nd .tup [.int (n : Nat), d] :: num (n + 1) ds
theorem num_at : ∀ {xs : List D} {n i : Nat}, (num n xs)[i]? = (match xs[i]? with | some d => some (.nd .tup [.int ((n + i : Nat) : Int), d]) | none => none)
  | [], n, i => by simp [num]
  | d :: ds, n, 0 => by simp [num]
  | d :: ds, n, i + 1 => by
    rw [num]
    simp only [List.getElem?_cons_succ]
    rw [num_at]
    have : n + 1 + i = n + (i + 1) := by omega
    rw [this]
theorem num_len : ∀ {xs : List D} {n : Nat}, (num n xs).length = xs.length
  | [], n => rfl
  | d :: ds, n => by simp [num, num_len]
theorem ItOk.enum {K : PySem.W.Frag} {H1 : Hp} {k : Bool} {a : Addr} {vs : List V} {xs : List D} (hs : ∀ H', (∀ b o, H1 b = some o → Fix o → H' b = some o) → SqK K k H' a vs) (hl : vs.length = xs.length) (c : ∀ (i : Nat) v d, vs[i]? = some v → xs[i]? = some d → Fz K H1 v d) :
    ItOk K (IteK K k a vs.length) H1 (num 0 xs) := by
  intro i H kf
  have hq := hs H kf
  refine ⟨fun d hd => ?_, fun hle => ?_⟩
  · rw [num_at] at hd
    split at hd
    · rename_i x hx
      cases hd
      have hi := (List.getElem?_eq_some_iff.mp hx).1
      have hv : vs[i]? = some (vs[i]'(by omega)) := List.getElem?_eq_getElem _
      refine ⟨⟨vs, _, hq, hv, rfl⟩, fun y H' ⟨T, x', e1, nT, e2, un⟩ => ?_⟩
      subst e1 e2
      have := un vs hq
      rw [hv] at this; cases this
      have kk := upd_keeps (o := .tup [.int (i : Nat), vs[i]'(by omega)]) nT
      refine ⟨kk, .nd (k := .tup) (vs := [.int (i : Nat), vs[i]'(by omega)]) (SqT.of upd_same) rfl fun j v d e1 e2 => ?_⟩
      match j with
      | 0 => cases e1; cases e2; rw [Nat.zero_add]; exact .int _
      | 1 => cases e1; cases e2; exact (c i _ _ hv hx).stay fun b o e z => kk b o (kf b o e z)
      | j + 2 => simp at e1
    · cases hd
  · rw [num_len] at hle
    exact ⟨vs, hq, rfl, by omega⟩
def enumI (r : R) (ρ : Rho) : Out (List D) := match r with
  | .val d => (match seqOf d with
    | some xs => .ok (num 0 xs) ρ
    | none => .no)
  | .bor _ => .no
def fiEnum (f : FE) : FI := fun ρ => (fFz f ρ).bind enumI
theorem xi_enum {e : Expr} {f : FE} {p pos tpos : Pos} {elts : List Expr} {kk : Nat} (hK : Γ.K = X.K) (hg : Gl X "enumerate") (hm : X.mg "enumerate" = none) (h : XE' X Γ e f) (hs : starEach [e] X.env = [(false, eval e X.env)] := by rfl) :
    XI' X Γ (.Tuple elts kk tpos) (.Call (.Name "enumerate" p) [e] [] pos) (fiEnum f) := by
  refine PI.imp (pi_enumK hg hm (pa_cons (x_fz h) pa_nil hs) hs) fun σ H R ⟨ρ, A, F, e, h⟩ => ?_
  refine ⟨ρ, A, F, e, Go.bind h Stp.refl fun r ρ1 v H1 F1 g1 ho e1 st1 q1 h1 => ?_⟩
  unfold enumI at h1
  split at h1
  · rename_i d
    have hf := fFz_isF ho
    split at h1
    · rename_i xs hxs
      obtain ⟨w, rfl⟩ := q1.1.isF hf
      obtain ⟨k, a, vs, rfl, hq, hl, c, hs⟩ := w.seq hxs
      refine ⟨k, a, vs, rfl, by rw [← hK]; exact hq, ?_⟩
      have := Go.ok (g := []) h1 e1 st1 ⟨ItOk.enum hs hl c, rfl⟩
      rw [← hK]; exact this
    · exact False.elim h1
  · exact False.elim h1
end
/-! ### zip -/
def ItzK (K : PySem.W.Frag) (k1 k2 : Bool) (a b : Addr) (n : Nat) : It :=
  ⟨fun i H => ∃ (xs ys : List V) (x y : V), SqK K k1 H a xs ∧ SqK K k2 H b ys ∧ xs[i]? = some x ∧ ys[i]? = some y ∧ min xs.length ys.length = n,
    fun i H v H' => ∃ T x y, v = .ref T ∧ H T = none ∧ H' = upd H T (.tup [x, y]) ∧ (∀ xs, SqK K k1 H a xs → xs[i]? = some x) ∧ ∀ ys, SqK K k2 H b ys → ys[i]? = some y,
    fun i H => ∃ xs ys : List V, SqK K k1 H a xs ∧ SqK K k2 H b ys ∧ min xs.length ys.length = n ∧ n ≤ i⟩
theorem turn_zipK {P : Program} {w : World} {K : PySem.W.Frag} {elts : List Expr} {kk : Nat} {tpos : Pos} {k1 k2 : Bool} {a b z TI TO i1 i2 : Addr} {n : Nat} (D : ZipSep2 z TI TO i1 i2 [i1, a] [i2, b]) :
    Turn P w K (.Tuple elts kk tpos) (ItzK K k1 k2 a b n) [z, TI, TO, i1, i2] z (fun i h => IsZip h z TI TO .none ∧ IsPair h TI (.ref i1) (.ref i2) ∧ (∃ x y, IsPair h TO x y) ∧ ItK k1 h i1 a i ∧ ItK k2 h i2 b i ∧ i ≤ n) where
  mem := by simp
  obj := fun i h st c hc => by
    obtain ⟨hz, hTI, ⟨x, y, hTO⟩, h1, h2, _⟩ := st
    have e' : c = z ∨ c = TI ∨ c = TO ∨ c = i1 ∨ c = i2 := by simpa using hc
    rcases e' with q | q | q | q | q
    · rw [q]; exact ⟨_, hz, fun v q => nomatch q⟩
    · rw [q]; exact ⟨_, hTI, fun v q => nomatch q⟩
    · rw [q]; exact ⟨_, hTO, fun v q => nomatch q⟩
    · rw [q]; exact h1.obj
    · rw [q]; exact h2.obj
  keep := fun i h h' st k => by
    obtain ⟨hz, hTI, ⟨x, y, hTO⟩, h1, h2, hn⟩ := st
    exact ⟨k z (by simp) _ hz, k TI (by simp) _ hTI, ⟨x, y, k TO (by simp) _ hTO⟩, h1.at fun o q => k i1 (by simp) o q, h2.at fun o q => k i2 (by simp) o q, hn⟩
  item := by
    intro X hP hw hK hc i pins s σ H E I hf st hg
    subst hP hw hK
    obtain ⟨hz, hTI, ⟨x0, y0, hTO⟩, h1, h2, hn⟩ := st
    obtain ⟨xs, ys, x, y, hqx, hqy, hx, hy, hmin⟩ := hg
    obtain ⟨its, rv, p, _⟩ := sqK_at I hqx
    obtain ⟨its2, rv2, p2, _⟩ := sqK_at I hqy
    obtain ⟨u, hu, ru⟩ := rv.get hx
    obtain ⟨u2, hu2, ru2⟩ := rv2.get hy
    have hzl : z < s.heap.objs.size := Heap.lt_size hz
    have ha1 : a ≠ i1 := fun e => by
      have h1' := D.zf1
      have := D.sep2_1
      exact h1.ne_seq p e.symm
    have hb1 : b ≠ i2 := fun e => h2.ne_seq p2 e.symm
    have hu' : i < its.toArray.size := by simpa using (List.getElem?_eq_some_iff.mp hu).1
    have hu2' : i < its2.toArray.size := by simpa using (List.getElem?_eq_some_iff.mp hu2).1
    refine wpAny_pyNext_zipD2_item D (drawsK (A := X.A.in1) k1 (I.ok.hd hc) i1 a ha1 its.toArray) (drawsK (A := X.A.in1) k2 (I.ok.hd hc) i2 b hb1 its2.toArray) hz hTI hTO ⟨h1, p⟩ ⟨h2, p2⟩ hu' hu2' fun x1 x2 h' tk px1 px2 z' TO' st1 st2 hT hsz hk => ?_
    have ex1 : x1 = u := by
      have px : its.toArray[i]? = some x1 := px1
      rw [List.getElem?_toArray, hu] at px; cases px; rfl
    have ex2 : x2 = u2 := by
      have px : its2.toArray[i]? = some x2 := px2
      rw [List.getElem?_toArray, hu2] at px; cases px; rfl
    subst ex1 ex2
    obtain ⟨h1', p1'⟩ := st1
    obtain ⟨h2', p2'⟩ := st2
    refine ⟨_, rfl, wpAny_letOwnedTupleGo_zip (s := { s with heap := h', toks := tk }) z' fun h'' z'' sb => ?_⟩
    have hT2 : h''.get? s.heap.objs.size = some { cls := .type "tuple", data := .seq #[x1, x2] } := (sb.2 _ (Nat.ne_of_gt hzl)).trans hT
    have new : ObjOk X.prog X.w (upd H s.heap.objs.size (.tup [x, y])) h'' s.heap.objs.size (.tup [x, y]) :=
      ⟨by show 2 ≤ sizeLine; decide, [x1, x2], .cons ru (.cons ru2 .nil), ⟨_, hT2, rfl, _, rfl⟩⟩
    have I1 : Inv X pins σ (upd H s.heap.objs.size (.tup [x, y])) { s with heap := h'', toks := tk } :=
      I.turnedNew (ch := [z, TI, TO, i1, i2]) (fun c o hb q => (sb.2 c (fun q' => hb (by simp [q']))).trans (hk c o (fun q' => hb (by simp [q'])) (fun q' => hb (by simp [q'])) (fun q' => hb (by simp [q'])) (fun q' => hb (by simp [q'])) q)) hf (Nat.le_refl _) new
    refine ⟨.ref s.heap.objs.size, _, I1, rfl, ⟨_, x, y, rfl, I.hok.fresh (Nat.le_refl _), rfl, fun l hl => by rw [sqK_inj I hl hqx]; exact hx, fun l hl => by rw [sqK_inj I hl hqy]; exact hy⟩, ⟨z'', ?_, ⟨x1, x2, ?_⟩, ?_, ?_, ?_⟩, fun c hcm => ?_⟩
    · exact (sb.2 _ D.TIz).trans (hk _ _ D.TIz D.TITO D.TIi1 D.TIi2 hTI)
    · exact (sb.2 _ D.TOz).trans TO'
    · exact h1'.at fun o q => (sb.2 _ (Ne.symm D.zi1)).trans q
    · exact h2'.at fun o q => (sb.2 _ (Ne.symm D.zi2)).trans q
    · have l1 := rv.length
      have l2 := rv2.length
      have q1 : i < its.length := by simpa using hu'
      have q2 : i < its2.length := by simpa using hu2'
      omega
    · have hlt : c < s.heap.objs.size := by
        have e' : c = z ∨ c = TI ∨ c = TO ∨ c = i1 ∨ c = i2 := by simpa using hcm
        rcases e' with q | q | q | q | q
        · rw [q]; exact hzl
        · rw [q]; exact Heap.lt_size hTI
        · rw [q]; exact Heap.lt_size hTO
        · rw [q]; exact h1.lt
        · rw [q]; exact h2.lt
      rw [upd_ne (Nat.ne_of_lt hlt)]
      exact (hf c hcm).1
  done := by
    intro X hP hw hK hc i pins s σ H E I hf st hg
    subst hP hw hK
    obtain ⟨hz, hTI, ⟨x0, y0, hTO⟩, h1, h2, hn⟩ := st
    obtain ⟨xs, ys, hqx, hqy, hmin, hend⟩ := hg
    obtain ⟨its, rv, p, _⟩ := sqK_at I hqx
    obtain ⟨its2, rv2, p2, _⟩ := sqK_at I hqy
    have l1 := rv.length
    have l2 := rv2.length
    have ha1 : a ≠ i1 := fun e => h1.ne_seq p e.symm
    have hb1 : b ≠ i2 := fun e => h2.ne_seq p2 e.symm
    have s1 : its.toArray.size = its.length := List.size_toArray
    have s2 : its2.toArray.size = its2.length := List.size_toArray
    exact wpAny_pyNext_zipD2_end D (drawsK (A := X.A.in1) k1 (I.ok.hd hc) i1 a ha1 its.toArray) (drawsK (A := X.A.in1) k2 (I.ok.hd hc) i2 b hb1 its2.toArray) hz hTI hTO ⟨h1, p⟩ ⟨h2, p2⟩ (by omega) (by omega) (by omega) fun h' tk hk => ⟨rfl, I.turnedL (t' := tk) (ch := [z, TI, TO, i1, i2]) (fun c o hb q =>
      hk c o (fun q' => hb (by simp [q'])) (fun q' => hb (by simp [q'])) (fun q' => hb (by simp [q'])) (fun q' => hb (by simp [q'])) q) hf⟩
  self := fun A i s Q E st h => wpAny_pyIter_zip st.1 h
def iZipK (K : PySem.W.Frag) (ta : TA) : TI := fun σ H R => ta σ H fun vs H1 => ∃ k1 k2 a b xs ys, vs = [.ref a, .ref b] ∧ SqK K k1 H1 a xs ∧ SqK K k2 H1 b ys ∧ R (ItzK K k1 k2 a b (min xs.length ys.length)) H1
theorem pi_zipK {X : Cx} {e e2 : Expr} {ta : TA} {p pos tpos : Pos} {elts : List Expr} {kk : Nat} (hg : Gl X "zip") (hm : X.mg "zip" = none) (ha : PA X [e, e2] ta)
    (hs : starEach [e, e2] X.env = (false, eval e X.env) :: starEach [e2] X.env := by rfl) (hpl : (backTo pos (starEach [e2] X.env)).any (·.1) = false := by rfl) :
    PI X (.Tuple elts kk tpos) (.Call (.Name "zip" p) [e, e2] [] pos) (iZipK X.K ta) := by
  refine ⟨fun pins s σ H R I h => ?_⟩
  refine Call_ (ld_blt I hg hm PyProof.Rows.boot_zip (PyProof.Rows.callWith_type1 (thn (ha.run pos pins s σ H _ I h) fun us s1 ⟨vs, H1, I1, r1, q1⟩ => ?_) hs hpl))
  obtain ⟨k1, k2, a, b, xs, ys, ex, hqx, hqy, q⟩ := q1
  subst ex
  cases r1 with
  | cons r rr =>
    cases rr with
    | cons r' rr =>
      cases rr
      cases r
      cases r'
      have fresh5 : ∀ c, c ∈ [s1.heap.objs.size + 4, s1.heap.objs.size + 2, s1.heap.objs.size + 3, s1.heap.objs.size, s1.heap.objs.size + 1] → FpOk X pins H1 c := fun c hcm => by
        have e' : c = s1.heap.objs.size + 4 ∨ c = s1.heap.objs.size + 2 ∨ c = s1.heap.objs.size + 3 ∨ c = s1.heap.objs.size ∨ c = s1.heap.objs.size + 1 := by simpa using hcm
        have hle : s1.heap.objs.size ≤ c := (in5 _ _ _ rfl e').1
        exact I1.fpOk hle (I1.hok.fresh hle)
      obtain ⟨its, rv, p1, _⟩ := sqK_at I1 hqx
      obtain ⟨its2, rv2, p2, _⟩ := sqK_at I1 hqy
      refine zip_begins2 (begK k1 a its.toArray) (begK k2 b its2.toArray) p1 p2 fun h' hz hTI hTO g1 g2 hsz hk => wpAny_pyIter_zip hz ?_
      have I2 : Inv X pins σ H1 { s1 with heap := h' } := I1.kept (t' := s1.toks) hk
      exact ⟨s1.heap.objs.size + 4, [s1.heap.objs.size + 4, s1.heap.objs.size + 2, s1.heap.objs.size + 3, s1.heap.objs.size, s1.heap.objs.size + 1], _, _, H1, rfl, I2, turn_zipK (zsep _ _ _ p1.lt p2.lt), ⟨hz, hTI, ⟨_, _, hTO⟩, startK g1, startK g2, Nat.zero_le _⟩, fresh5, q⟩
section
variable {X : Cx} {Γ : Ct}
theorem ItOk.zip {K : PySem.W.Frag} {H1 : Hp} {k1 k2 : Bool} {a b : Addr} {vs ws : List V} {xs ys : List D} (hs : ∀ H', (∀ b o, H1 b = some o → Fix o → H' b = some o) → SqK K k1 H' a vs) (hs2 : ∀ H', (∀ b o, H1 b = some o → Fix o → H' b = some o) → SqK K k2 H' b ws)
    (hl : vs.length = xs.length) (hl2 : ws.length = ys.length) (c : ∀ (i : Nat) v d, vs[i]? = some v → xs[i]? = some d → Fz K H1 v d) (c2 : ∀ (i : Nat) v d, ws[i]? = some v → ys[i]? = some d → Fz K H1 v d) :
    ItOk K (ItzK K k1 k2 a b (min vs.length ws.length)) H1 (zp xs ys) := by
  intro i H kf
  have hq := hs H kf
  have hq2 := hs2 H kf
  refine ⟨fun d hd => ?_, fun hle => ?_⟩
  · unfold zp at hd
    rw [List.getElem?_zipWith] at hd
    cases hx : xs[i]? with
    | none => rw [hx] at hd; cases hd
    | some x =>
      cases hy : ys[i]? with
      | none => rw [hx, hy] at hd; cases hd
      | some y =>
        rw [hx, hy] at hd
        cases hd
        have hi := (List.getElem?_eq_some_iff.mp hx).1
        have hi2 := (List.getElem?_eq_some_iff.mp hy).1
        obtain ⟨v, hv⟩ : ∃ v, vs[i]? = some v := ⟨_, List.getElem?_eq_getElem (by omega)⟩
        obtain ⟨w, hw⟩ : ∃ v, ws[i]? = some v := ⟨_, List.getElem?_eq_getElem (by omega)⟩
        refine ⟨⟨vs, ws, v, w, hq, hq2, hv, hw, rfl⟩, fun u H' ⟨T, x', y', e1, nT, e2, un, un2⟩ => ?_⟩
        subst e1 e2
        have := un vs hq
        rw [hv] at this; cases this
        have := un2 ws hq2
        rw [hw] at this; cases this
        have kk := upd_keeps (o := .tup [v, w]) nT
        refine ⟨kk, .nd (k := .tup) (vs := [v, w]) (SqT.of upd_same) rfl fun j v d e1 e2 => ?_⟩
        match j with
        | 0 => cases e1; cases e2; exact (c i _ _ hv hx).stay fun b o e z => kk b o (kf b o e z)
        | 1 => cases e1; cases e2; exact (c2 i _ _ hw hy).stay fun b o e z => kk b o (kf b o e z)
        | j + 2 => simp at e1
  · unfold zp at hle
    rw [List.length_zipWith] at hle
    exact ⟨vs, ws, hq, hq2, rfl, by omega⟩
def zipI (rs : List R) (ρ : Rho) : Out (List D) := match rs with
  | [.val d, .val e] => (match seqOf d, seqOf e with
    | some xs, some ys => .ok (zp xs ys) ρ
    | _, _ => .no)
  | _ => .no
def fiZip (f g : FE) : FI := fun ρ => (faCons (fFz f) (faCons (fFz g) faNil) ρ).bind zipI
theorem faFz_isF {f g : FE} {ρ ρ' : Rho} {d e : D} (h : faCons (fFz f) (faCons (fFz g) faNil) ρ = .ok [.val d, .val e] ρ') : d.isF = true ∧ e.isF = true := by
  unfold faCons at h
  cases h1 : fFz f ρ with
  | no => rw [h1] at h; cases h
  | err c fs ρ1 => rw [h1] at h; cases h
  | ok r ρ1 =>
    rw [h1, Out.bind_ok] at h
    cases h2 : fFz g ρ1 with
    | no => rw [h2] at h; cases h
    | err c fs ρ1 => rw [h2] at h; cases h
    | ok r2 ρ2 =>
      rw [h2] at h
      simp only [Out.bind_ok, faNil] at h
      injection h with h3 h4
      injection h3 with h5 h6
      injection h6 with h7 h8
      subst h5 h7
      exact ⟨fFz_isF h1, fFz_isF h2⟩
theorem xi_zip {e e2 : Expr} {f g : FE} {p pos tpos : Pos} {elts : List Expr} {kk : Nat} (hK : Γ.K = X.K) (hg : Gl X "zip") (hm : X.mg "zip" = none) (h : XE' X Γ e f) (h' : XE' X Γ e2 g)
    (hs : starEach [e, e2] X.env = (false, eval e X.env) :: starEach [e2] X.env := by rfl) (hs2 : starEach [e2] X.env = (false, eval e2 X.env) :: starEach [] X.env := by rfl) (hpl : (backTo pos (starEach [e2] X.env)).any (·.1) = false := by rfl) :
    XI' X Γ (.Tuple elts kk tpos) (.Call (.Name "zip" p) [e, e2] [] pos) (fiZip f g) := by
  refine PI.imp (pi_zipK hg hm (xa_cons (x_fz h) (xa_cons (x_fz h') xa_nil hs2) hs) hs hpl) fun σ H R ⟨ρ, A, F, e, h⟩ => ?_
  refine ⟨ρ, A, F, e, Go.bind h Stp.refl fun rs ρ1 vs H1 F1 g1 ho e1 st1 q1 h1 => ?_⟩
  unfold zipI at h1
  split at h1
  · rename_i d d'
    obtain ⟨hf, hf2⟩ := faFz_isF ho
    split at h1
    · rename_i xs ys hxs hys
      cases q1 with
      | @cons _ v g _ vs gs q t dj =>
      cases t with
      | @cons _ v' g' _ vs' gs' q' t' dj' =>
      cases t'
      obtain ⟨w, rfl⟩ := q.1.isF hf
      obtain ⟨w', rfl⟩ := q'.1.isF hf2
      obtain ⟨k1, a, us, rfl, hq, hl, c, hs⟩ := w.seq hxs
      obtain ⟨k2, b, ws, rfl, hq2, hl2, c2, hs2⟩ := w'.seq hys
      refine ⟨k1, k2, a, b, us, ws, rfl, by rw [← hK]; exact hq, by rw [← hK]; exact hq2, ?_⟩
      have := Go.ok (g := []) h1 e1 st1 ⟨ItOk.zip hs hs2 hl hl2 c c2, rfl⟩
      rw [← hK]; exact this
    · exact False.elim h1
  · exact False.elim h1
end
end EE

/-! layer E, part L: own defs in one word, keyword calls -/
namespace EE
open PySem PySem.Spec
open PyProof.Rows hiding St
open L2
section
variable {P : Program} {w : World} {K : PySem.W.Frag} {mg : Str → Option Value} {base : Heap} {N : List Str} {qual : Str} {scope : Scope} {f : Addr} {cd : Value} {A : Around} {outer : List Env} {s : Shared} {H : Hp} {E : XK}
abbrev cxE (P : Program) (w : World) (K : PySem.W.Frag) (mg : Str → Option Value) (base : Heap) (N : List Str) (qual : Str) (scope : Scope) (f : Addr) (cd : Value) (A : Around) (outer : List Env) (s : Shared) (H : Hp) (E : XK) : Cx := cxOf (L2.CX P w) P w K mg base N qual scope f cd A outer s H E
theorem takesE : Takes (cxE P w K mg base N qual scope f cd A outer s H E) (fun cls d _ H => E cls d H) := takes_of rfl rfl rfl rfl
theorem powE : PassesOwn (model P w) (cxE P w K mg base N qual scope f cd A outer s H E).A (cxE P w K mg base N qual scope f cd A outer s H E).env (cxE P w K mg base N qual scope f cd A outer s H E).xe := passes_of rfl
theorem fitE : Fit (cxE P w K mg base N qual scope f cd A outer s H E) (CtE K mg E) := ⟨rfl, rfl, fun σ => passAt takesE σ, rfl⟩
end
theorem Fit.blk {X : Cx} {Γ : Ct} (h : Fit X Γ) {s : Shared} {H : Hp} {scope : Scope} {cenv : Env} {fp : List Addr} : Fit (X.blk s H scope cenv fp) Γ.blk := ⟨h.K, h.mg, fun σ => passAt takes0 σ, h.calm⟩
theorem hu65 {A : Around} {k : Nat} (hr : Room k A) : A.units + 65 < cLine := by have := hr.un; omega
/-- a def of the program's own, as its callers see it -/
structure Own (P : Program) (w : World) (K : PySem.W.Frag) (mg : Str → Option Value) (base : Heap) (k : Nat) (x : Str) (ps : List Str) (ms : List Bool) (F : List D → CO) : Prop where
  ex : ∃ f fd, FnOk P w K mg base (L2.CX P w) k f fd ps (spF K mg ms F) ∧ mg x = some (.ref f) ∧ PySem.W.keepIn K (.ref f) = true ∧ ∀ (j : Nat) (s : Shared) (us ws : List Value), j ≤ ps.length → us.length = j → (us ++ ws).length = ps.length → BindsTo s fd ⟨us, (ps.drop j).zip ws⟩ (ps.zip (us ++ ws))
section
variable {X : Cx} {Γ : Ct}
theorem x_callO {x : Str} {k j : Nat} {ps : List Str} {ms : List Bool} {F : List D → CO} {e : Expr} {es : List Expr} {fs : FA} {p pos : Pos} (fit : Fit X Γ)
    (O : Own X.prog X.w X.K X.mg X.base k x ps ms F) (hr : Room j X.A) (hg : Gl X x) (ha : XA' X Γ (e :: es) fs) (hj : k ≤ j := by decide) (hdb : (x == ("__debug__" : Str)) = false := by decide) (he : starEach (e :: es) X.env = (false, eval e X.env) :: starEach es X.env := by rfl) (hpl : (backTo pos (starEach es X.env)).any (·.1) = false := by rfl) :
    XE' X Γ (.Call (.Name x p) (e :: es) [] pos) (fCallU ms F fs) := by
  obtain ⟨f, fd, h1, h2, h3, h4⟩ := O.ex
  refine x_call fit h1 (hr.mono hj) hg h2 h3 (fun s us _ hl => ?_) ha hdb he hpl
  rw [List.append_nil] at hl ⊢
  have := h4 ps.length s us [] (Nat.le_refl _) hl (by rw [List.append_nil]; exact hl)
  rw [List.append_nil, List.zip_nil_right] at this
  exact this
/-! ### keywords -/
abbrev XK' (X : Cx) (Γ : Ct) (e : List Keyword) (f : FA) : Prop := PK X e (tA Γ f)
theorem PK.imp {X : Cx} {e : List Keyword} {t t' : TA} (h : PK X e t) (k : ∀ σ H Q, t' σ H Q → t σ H Q) : PK X e t' := ⟨fun pos pins s σ H Q I q => h.run pos pins s σ H Q I (k _ _ _ q)⟩
theorem xk_nil : XK' X Γ [] faNil := by
  refine PK.imp pk_nil fun σ H Q ⟨ρ, A, F, e, h⟩ => ?_
  exact Go.ok (g := []) h e (Stp.refl.sub plus_nil) .nil
theorem cons_go {f : FE} {fs : FA} (σ : L2.St) (H : Hp) (Q : List V → Hp → Prop) (h : tA Γ (faCons f fs) σ H Q) : tCons (tE Γ f) (tA Γ fs) σ H Q := by
  obtain ⟨ρ, A, F, e, h⟩ := h
  refine ⟨ρ, A, F, e, Go.bind h Stp.refl fun a ρ1 v H1 F1 g1 _ e1 st1 q1 h1 => ?_⟩
  refine ⟨ρ1, A, F1, e1, Go.bind h1 (st1.sub fun b q => .inl q) fun rs ρ2 vs H2 F2 g2 _ e2 st2 q2 h2 => ?_⟩
  have st2' : Stp H1 (plus (fsS F1) g1) H2 (plus (fsS F2) (g1 ++ g2)) := st2.frame.sub fun b q => by
    rcases q with q | q
    · exact .inl (.inl q)
    · rcases List.mem_append.mp q with q | q
      · exact .inr q
      · exact .inl (.inr q)
  exact Go.ok h2 e2 (st1.trans st2') (.cons (q1.step e1 st2 fun a z => .inl z) q2 fun a ha z => q1.apart st2 a ha (.inr z))
theorem xk_cons {nm : Option Str} {e : Expr} {kpos : Pos} {kws : List Keyword} {f : FE} {fs : FA} (ha : XE' X Γ e f) (hr : XK' X Γ kws fs) : XK' X Γ (⟨nm, e, kpos⟩ :: kws) (faCons f fs) := PK.imp (pk_cons ha hr) cons_go
def faApp (fs gs : FA) : FA := fun ρ => (fs ρ).bind fun rs ρ1 => (gs ρ1).bind fun rs2 ρ2 => .ok (rs ++ rs2) ρ2
theorem ResL.append {K : PySem.W.Frag} {σ : L2.St} {H : Hp} {F : Fp} {rs rs2 : List R} {vs vs2 : List V} {g g2 : List Addr} (q : ResL K σ H F rs vs g) (q2 : ResL K σ H F rs2 vs2 g2) (dj : ∀ a ∈ g, a ∉ g2) : ResL K σ H F (rs ++ rs2) (vs ++ vs2) (g ++ g2) := by
  induction q with
  | nil => exact q2
  | @cons r v g rs vs gs q t d ih =>
    rw [List.append_assoc]
    refine .cons q (ih fun a ha => dj a (List.mem_append_right _ ha)) fun a ha z => ?_
    rcases List.mem_append.mp z with z | z
    · exact d a ha z
    · exact dj a (List.mem_append_left _ ha) z
theorem ResL.stepL {A : Nat → Addr} {σ : L2.St} {H H' : Hp} {F F' : Fp} {rs : List R} {vs : List V} {g : List Addr} {S' : Addr → Prop} {ρ : Rho} (q : ResL Γ.K σ H F rs vs g) (e : EnvR Γ.K A σ H ρ F) (st : Stp H (fsS F) H' S') (hs : ∀ a, fsS F' a → S' a) : ResL Γ.K σ H' F' rs vs g ∧ ∀ a ∈ g, ¬ S' a := by
  induction q with
  | nil => exact ⟨.nil, fun a ha => nomatch ha⟩
  | @cons r v g rs vs gs q t d ih =>
    obtain ⟨ih1, ih2⟩ := ih
    refine ⟨.cons (q.step e st hs) ih1 d, fun a ha => ?_⟩
    rcases List.mem_append.mp ha with ha | ha
    · exact q.apart st a ha
    · exact ih2 a ha
theorem run_fnkS {CX : CXT} {k : Nat} {f : Addr} {fd : FuncData} {ps ks : List Str} {sp : Sp} {E : L2.St → XK} {pins : List (Addr × Obj)} {σ : L2.St} {H : Hp} {s : Shared} {Q : VK} {us ws : List Value} {vs zs : List V} (F : FnOk X.prog X.w X.K X.mg X.base CX k f fd ps sp) (hr : Room k X.A)
    (hb : (us ++ ws).length = ps.length → BindsTo s fd ⟨us, ks.zip ws⟩ (ps.zip (us ++ ws))) (hx : PassesAt CX X σ (E σ)) (I : Inv X pins σ H s) (r : Vals vs us) (rz : Vals zs ws) (h : sp (vs ++ zs) H Q (E σ)) : wpAny (model X.prog X.w) X.A (call (.ref f) us (ks.zip ws)) (EP X pins σ Q) X.xe s := by
  have r2 := r.append rz
  have hl : (us ++ ws).length = ps.length := by rw [← r2.length]; exact F.len _ _ _ _ h
  refine wpAny_call (codeAny_mono (F.run X.A X.stack s H ⟨us, ks.zip ws⟩ (us ++ ws) (vs ++ zs) Q (E σ) hr I.env0 (hb hl) r2 h) fun r s' hq => ?_)
  cases r with
  | error e => exact hx pins H s e s' I hq
  | ok fl =>
    cases fl with
    | ret u => exact I.after hq
    | next => exact False.elim hq
    | brk => exact False.elim hq
    | cont => exact False.elim hq
theorem callU_go {ms : List Bool} {F : List D → CO} {A : Nat → Addr} {σ : L2.St} {H H1 : Hp} {S : Addr → Prop} {ρ1 : Rho} {F1 : Fp} {rs : List R} {vs : List V} {g1 : List Addr} {Q : VK} (fit : Fit X Γ) (h1 : Go Γ A (ResR Γ.K) σ H S (callU ms F rs ρ1) Q) (e1 : EnvR Γ.K A σ H1 ρ1 F1) (st1 : Stp H S H1 (plus (fsS F1) g1)) (q1 : ResL Γ.K σ H1 F1 rs vs g1) :
    spF X.K X.mg ms F vs H1 Q (WE Γ.W σ) := by
  unfold callU at h1
  split at h1
  · rename_i hnd
    split at h1
    · rename_i ds hds
      refine ⟨ds, _, by rw [← fit.K]; exact call_ahead e1 q1 hnd hds, ?_⟩
      have st1' : Stp H S H1 (fsS F1) := st1.sub fun b q => .inl q
      cases hF : F ds with
      | no => rw [hF] at h1; exact h1
      | err c fs' os =>
        rw [hF] at h1
        intro C od H' G' lo hmc bk xr st
        rw [← fit.K] at bk xr
        rw [← fit.mg] at hmc
        obtain ⟨F2, e2, _, st2, _⟩ := call_behind (g := []) e1 q1 hnd hds lo bk (st.sub plus_nil)
        exact h1 C od H' F2 hmc e2 (st1'.trans (st2.sub fun b q => .inl q)) xr
      | ok res os =>
        rw [hF] at h1
        intro v H' g G' lo bk wv nd dj st
        rw [← fit.K] at bk wv
        obtain ⟨F2, e2, _, st2, sf⟩ := call_behind e1 q1 hnd hds lo bk st
        refine Go.ok h1 e2 (st1'.trans st2) ⟨wv, nd, fun a ha z => ?_⟩
        exact dj a ha (sf a ha z)
    · exact False.elim h1
  · exact False.elim h1
theorem vals_len {vs : List V} {us : List Value} (r : Vals vs us) : us.length = vs.length := r.length.symm
theorem fal_nil : ∀ (rs : List R) (ρ ρ' : Rho), faNil ρ = .ok rs ρ' → rs.length = 0 := fun rs ρ ρ' h => by
  unfold faNil at h; injection h with h _; rw [← h]; rfl
theorem fal_cons {f : FE} {fs : FA} {n : Nat} (h : ∀ (rs : List R) (ρ ρ' : Rho), fs ρ = .ok rs ρ' → rs.length = n) : ∀ (rs : List R) (ρ ρ' : Rho), faCons f fs ρ = .ok rs ρ' → rs.length = n + 1 := fun rs ρ ρ' e => by
  unfold faCons at e
  cases h1 : f ρ with
  | no => rw [h1] at e; cases e
  | err c q ρ1 => rw [h1] at e; cases e
  | ok r ρ1 =>
    rw [h1, Out.bind_ok] at e
    cases h2 : fs ρ1 with
    | no => rw [h2] at e; cases e
    | err c q ρ2 => rw [h2] at e; cases e
    | ok rs2 ρ2 =>
      rw [h2, Out.bind_ok] at e
      injection e with e _
      rw [← e, List.length_cons, h rs2 ρ1 ρ2 h2]
/-- f(e, .., k = v, ..): the names in their own order -/
theorem x_callKw {x : Str} {k j n : Nat} {ps : List Str} {ms : List Bool} {F : List D → CO} {e : Expr} {es : List Expr} {kws : List Keyword} {fs gs : FA} {p pos : Pos} (fit : Fit X Γ)
    (O : Own X.prog X.w X.K X.mg X.base k x ps ms F) (hr : Room j X.A) (hg : Gl X x) (ha : XA' X Γ (e :: es) fs) (hk : XK' X Γ kws gs) (hn : ∀ rs ρ ρ', fs ρ = .ok rs ρ' → rs.length = n) (hnp : n ≤ ps.length := by decide) (hj : k ≤ j := by decide) (hall : (backToKw pos (keywordEach kws X.env)).all (·.1.isSome) = true := by rfl) (hks : (backToKw pos (keywordEach kws X.env)).filterMap (·.1) = ps.drop n := by rfl)
    (hdb : (x == ("__debug__" : Str)) = false := by decide) (he : starEach (e :: es) X.env = (false, eval e X.env) :: starEach es X.env := by rfl) (hpl : ((backTo pos (starEach (e :: es) X.env)).any (·.1) || (backToKw pos (keywordEach kws X.env)).any (·.1.isNone)) = false := by rfl) :
    XE' X Γ (.Call (.Name x p) (e :: es) kws pos) (fCallU ms F (faApp fs gs)) := by
  obtain ⟨f, fd, h1, h2, h3, h4⟩ := O.ex
  refine ⟨fun pins s σ H Q I ⟨ρ, A, F0, e0, h⟩ => ?_⟩
  refine wpAny_Call_Name_kw (ld_glob I hg h2 ?_ hdb)
  refine PySem.W.callWith_KW (h₀ := X.base) I.ok.mod.kin h3 hall (thn (ha.run pos pins s σ H (fun vs H1 => vs.length = n ∧ tA Γ gs σ H1 fun zs H2 => spF X.K X.mg ms F (vs ++ zs) H2 Q (WE Γ.W σ)) I ⟨ρ, A, F0, e0, ?_⟩) fun us s1 ⟨vs, H1, I1, r, hvn, q⟩ => ?_) hpl he
  · unfold fCallU faApp at h
    cases hf : fs ρ with
    | no => rw [hf] at h; exact h
    | err c fs' ρ1 => rw [hf] at h; exact h
    | ok rs ρ1 =>
      rw [hf] at h
      intro vs H1 F1 g1 e1 st1 q1
      refine ⟨?_, ρ1, A, F1, e1, ?_⟩
      · rw [← hn rs ρ ρ1 hf]
        exact (q1.at_).1.symm
      · simp only [Out.bind_ok] at h
        cases hg' : gs ρ1 with
        | no => rw [hg'] at h; exact h
        | err c fs' ρ2 =>
          rw [hg'] at h
          exact fun C od H' F' hm e s x => h C od H' F' hm e ((st1.sub fun b q => .inl q).trans s) x
        | ok rs2 ρ2 =>
          rw [hg'] at h
          intro zs H2 F2 g2 e2 st2 q2
          obtain ⟨q1', dj⟩ := q1.stepL (F' := F2) e1 st2 fun a z => .inl z
          have h : Go Γ A (ResR Γ.K) σ H (fsS F0) (callU ms F (rs ++ rs2) ρ2) Q := h
          refine callU_go (g1 := g1 ++ g2) fit h e2 (st1.trans (st2.frame.sub fun b q => ?_)) (q1'.append q2 fun a ha z => dj a ha (.inr z))
          rcases q with q | q
          · exact .inl (.inl q)
          · rcases List.mem_append.mp q with q | q
            · exact .inr q
            · exact .inl (.inr q)
  · refine thn (hk.run pos pins s1 σ H1 _ I1 q) fun ws s2 ⟨zs, H2, I2, rz, q2⟩ => ⟨I2.kIn, ?_⟩
    rw [hks]
    have hl := vals_len r
    exact run_fnkS h1 (hr.mono hj) (fun hl' => h4 n s2 us ws hnp (hl.trans hvn) hl') (fit.exc σ) I2 r rz q2
/-- f(k = v, ..) -/
theorem x_callKw0 {x : Str} {k j : Nat} {ps : List Str} {ms : List Bool} {F : List D → CO} {kws : List Keyword} {gs : FA} {p pos : Pos} (fit : Fit X Γ)
    (O : Own X.prog X.w X.K X.mg X.base k x ps ms F) (hr : Room j X.A) (hg : Gl X x) (hk : XK' X Γ kws gs) (hj : k ≤ j := by decide) (hall : (backToKw pos (keywordEach kws X.env)).all (·.1.isSome) = true := by rfl) (hks : (backToKw pos (keywordEach kws X.env)).filterMap (·.1) = ps := by rfl)
    (hdb : (x == ("__debug__" : Str)) = false := by decide) (hpl : ((backTo pos (starEach [] X.env)).any (·.1) || (backToKw pos (keywordEach kws X.env)).any (·.1.isNone)) = false := by rfl) :
    XE' X Γ (.Call (.Name x p) [] kws pos) (fCallU ms F gs) := by
  obtain ⟨f, fd, h1, h2, h3, h4⟩ := O.ex
  refine ⟨fun pins s σ H Q I ⟨ρ, A, F0, e0, h⟩ => ?_⟩
  refine wpAny_Call_Name_kw (ld_glob I hg h2 ?_ hdb)
  refine PySem.W.callWith_KW0 (h₀ := X.base) I.ok.mod.kin h3 hall ?_ hpl
  refine thn (hk.run pos pins s σ H (fun zs H2 => spF X.K X.mg ms F zs H2 Q (WE Γ.W σ)) I ⟨ρ, A, F0, e0, Go.bind h Stp.refl fun rs ρ1 vs H1 F1 g1 _ e1 st1 q1 h1' => ?_⟩) fun ws s2 ⟨zs, H2, I2, rz, q2⟩ => ⟨I2.kIn, ?_⟩
  · exact callU_go fit h1' e1 st1 q1
  · rw [hks]
    have := run_fnkS (us := []) (ws := ws) (vs := []) (zs := zs) (ks := ps) h1 (hr.mono hj) (fun hl' => by
      have := h4 0 s2 [] ws (Nat.zero_le _) rfl hl'
      rw [List.drop_zero] at this
      exact this) (fit.exc σ) I2 .nil rz q2
    exact this
end
end EE

/-! layer E, part M: the rules in the printer's form -/
namespace EE
open PySem PySem.Spec
open PyProof.Rows hiding St
open L2
def BinR (X : Cx) (Γ : Ct) (op : Operator) (sem : D → D → Option D) : Prop := ∃ r, OpR X (binaryOp op) r ∧ ∀ v w H Q, rSem2 Γ.K sem v w H Q → r v w H Q
def CmpR (X : Cx) (Γ : Ct) (op : CmpOp) (sem : D → D → Option D) : Prop := ∃ r, OpR X (compareOp op) r ∧ ∀ v w H Q, rSem2 Γ.K sem v w H Q → r v w H Q
def BltR (X : Cx) (Γ : Ct) (id : String) (sem : List D → Option D) : Prop := ∃ r, CallR X (.builtin id) r ∧ ∀ v H Q, rSemL Γ.K sem v H Q → r v H Q
def TypR (X : Cx) (Γ : Ct) (id : String) (sem : List D → Option D) : Prop := ∃ r, CallR X (.type id) r ∧ ∀ v H Q, rSemL Γ.K sem v H Q → r v H Q
section
variable {X : Cx} {Γ : Ct}
theorem y_bin {op : Operator} {sem : D → D → Option D} {a b : Expr} {fa fb : FE} {pos : Pos} (h : BinR X Γ op sem) (ha : XE' X Γ a fa) (hb : XE' X Γ b fb) : XE' X Γ (.BinOp a op b pos) (fOp2 sem fa fb) := by
  obtain ⟨r, ho, hr⟩ := h
  exact x_bin ho hr ha hb
theorem y_cmp {op : CmpOp} {sem : D → D → Option D} {a b : Expr} {fa fb : FE} {pos : Pos} (h : CmpR X Γ op sem) (ha : XE' X Γ a fa) (hb : XE' X Γ b fb) (hm : behindInMarks op b = false := by first | exact nomark _ | rfl) : XE' X Γ (.Compare a [op] [b] pos) (fOp2 sem fa fb) := by
  obtain ⟨r, ho, hr⟩ := h
  exact x_cmp ho hr ha hb hm
theorem yt_cmp {op : CmpOp} {sem : D → D → Option D} {a b : Expr} {fa fb : FE} {pos : Pos} (h : CmpR X Γ op sem) (ha : XE' X Γ a fa) (hb : XE' X Γ b fb) (hm : behindInMarks op b = false := by first | exact nomark _ | rfl) : XT' X Γ (.Compare a [op] [b] pos) (fB (fOp2 sem fa fb)) := by
  obtain ⟨r, ho, hr⟩ := h
  exact xt_cmp ho hr ha hb hm
theorem y_blt {x : Str} {id : String} {sem : List D → Option D} {e : Expr} {es : List Expr} {fs : FA} {p pos : Pos} (h : BltR X Γ id sem) (hg : Gl X x) (hm : X.mg x = none) (ha : XA' X Γ (e :: es) fs) (hv : bootBuiltins x = some (.builtin id) := by decide +kernel)
    (hn : x ≠ "__name__" := by decide) (hdb : (x == ("__debug__" : Str)) = false := by decide)
    (he : starEach (e :: es) X.env = (false, eval e X.env) :: starEach es X.env := by rfl) (hpl : (backTo pos (starEach es X.env)).any (·.1) = false := by rfl) : XE' X Γ (.Call (.Name x p) (e :: es) [] pos) (fCall sem fs) := by
  obtain ⟨r, hc, hr⟩ := h
  exact x_callB hc hr hg hm hv ha hn hdb he hpl
theorem y_typ {x : Str} {id : String} {sem : List D → Option D} {e : Expr} {es : List Expr} {fs : FA} {p pos : Pos} (h : TypR X Γ id sem) (hg : Gl X x) (hm : X.mg x = none) (ha : XA' X Γ (e :: es) fs) (hv : bootBuiltins x = some (.type id) := by decide +kernel)
    (hn : x ≠ "__name__" := by decide) (hdb : (x == ("__debug__" : Str)) = false := by decide)
    (he : starEach (e :: es) X.env = (false, eval e X.env) :: starEach es X.env := by rfl) (hpl : (backTo pos (starEach es X.env)).any (·.1) = false := by rfl) : XE' X Γ (.Call (.Name x p) (e :: es) [] pos) (fCall sem fs) := by
  obtain ⟨r, hc, hr⟩ := h
  exact x_callTy hc hr hg hm hv ha hn hdb he hpl
def sOr : D → D → Option D := s2I fun i j => some (.int (Builtin.bitOr i j))
theorem r_or {K : PySem.W.Frag} (v w : V) (H : Hp) (Q : VK) (h : rSem2 K sOr v w H Q) : rI0 (fun i j => .int (Builtin.bitOr i j)) v w H Q := by
  obtain ⟨i, j, z, rfl, rfl, hz, q⟩ := rSem2_int h
  cases hz
  exact ⟨i, j, rfl, rfl, q.here (.int _)⟩
theorem b_add (f : Fit X Γ) : BinR X Γ .Add sAdd := ⟨_, op_addA, by rw [f.K]; exact r_add⟩
theorem b_sub (f : Fit X Γ) : BinR X Γ .Sub sSub := ⟨_, op_sub, by rw [f.K]; exact r_sub⟩
theorem b_mul (f : Fit X Γ) : BinR X Γ .Mult sMul := ⟨_, op_mul, by rw [f.K]; exact r_mul⟩
theorem b_mod (f : Fit X Γ) : BinR X Γ .Mod sMod := ⟨_, op_mod, by rw [f.K]; exact r_mod⟩
theorem b_div (f : Fit X Γ) : BinR X Γ .FloorDiv sDiv := ⟨_, op_fdiv, by rw [f.K]; exact r_div⟩
theorem b_pow (f : Fit X Γ) : BinR X Γ .Pow sPow := ⟨_, op_pow, by rw [f.K]; exact r_pow⟩
theorem b_shl (f : Fit X Γ) : BinR X Γ .LShift sShl := ⟨_, op_shl, by rw [f.K]; exact r_shl⟩
theorem b_shr (f : Fit X Γ) : BinR X Γ .RShift sShr := ⟨_, op_shr, by rw [f.K]; exact r_shr⟩
theorem b_and (f : Fit X Γ) : BinR X Γ .BitAnd sAnd := ⟨_, op_and, by rw [f.K]; exact r_and⟩
theorem b_or (f : Fit X Γ) : BinR X Γ .BitOr sOr := ⟨_, op_or, by rw [f.K]; exact r_or⟩
theorem c_lt (f : Fit X Γ) : CmpR X Γ .Lt sLt := ⟨_, op_lt, by rw [f.K]; exact r_lt⟩
theorem c_le (f : Fit X Γ) : CmpR X Γ .LtE sLe := ⟨_, op_le, by rw [f.K]; exact r_le⟩
theorem c_gt (f : Fit X Γ) : CmpR X Γ .Gt sGt := ⟨_, op_gt, by rw [f.K]; exact r_gt⟩
theorem c_ge (f : Fit X Γ) : CmpR X Γ .GtE sGe := ⟨_, op_ge, by rw [f.K]; exact r_ge⟩
theorem c_eq {k : Nat} (f : Fit X Γ) (hr : Room k X.A) : CmpR X Γ .Eq sEq := ⟨_, op_eqD hr.units, by rw [f.K]; exact r_eq⟩
theorem c_ne {k : Nat} (f : Fit X Γ) (hr : Room k X.A) : CmpR X Γ .NotEq sNe := ⟨_, op_neD hr.units, by rw [f.K]; exact r_ne⟩
theorem c_in {k : Nat} (f : Fit X Γ) (hr : Room k X.A) : CmpR X Γ .In (sIn false) := ⟨_, op_inA (hu65 hr), by rw [f.K]; exact r_in false⟩
theorem c_notIn {k : Nat} (f : Fit X Γ) (hr : Room k X.A) : CmpR X Γ .NotIn (sIn true) := ⟨_, op_notInA (hu65 hr), by rw [f.K]; exact r_in true⟩
theorem f_len (f : Fit X Γ) : BltR X Γ "len" sLen := ⟨_, call_len_seq, by rw [f.K]; exact r_len⟩
theorem f_abs (f : Fit X Γ) : BltR X Γ "abs" sAbs := ⟨_, call_abs, by rw [f.K]; exact r_abs⟩
theorem f_max2 (f : Fit X Γ) : BltR X Γ "max" sMax2 := ⟨_, call_max2 f.calm, by rw [f.K]; exact r_max2⟩
theorem f_min2 (f : Fit X Γ) : BltR X Γ "min" sMin2 := ⟨_, call_min2 f.calm, by rw [f.K]; exact r_min2⟩
theorem f_int (f : Fit X Γ) : TypR X Γ "int" sInt := ⟨_, call_int1, by rw [f.K]; exact r_int⟩
theorem f_tuple (f : Fit X Γ) : TypR X Γ "tuple" sTuple := ⟨_, call_tuple_of, by rw [f.K]; exact r_tuple⟩
theorem f_list (f : Fit X Γ) : TypR X Γ "list" sList := ⟨_, call_list_of, by rw [f.K]; exact r_list⟩
theorem y_ix (f : Fit X Γ) {a b : Expr} {fa fb : FE} {pos : Pos} (ha : XE' X Γ a fa) (hb : XE' X Γ b fb) (hs : PlainIx b := by exact fun _ _ => rfl) : XE' X Γ (.Subscript a b pos) (fOp2 sIx fa fb) := x_ix ix_A (by rw [f.K]; exact r_ix) ha hb hs
theorem y_neg {a : Expr} {fa : FE} {pos : Pos} (ha : XE' X Γ a fa) : XE' X Γ (.UnaryOp .USub a pos) (fOp1 sNeg fa) := x_un un_neg r_neg ha
def sIpA : D → D → Option D := s2I fun i j => some (.int (i + j))
def sIpS : D → D → Option D := s2I fun i j => some (.int (i - j))
theorem s2I_F {f : Int → Int → Option D} {a b z : D} (h : s2I f a b = some z) : a.isF = true := by
  unfold s2I at h
  split at h
  · rfl
  · cases h
theorem ip_of {f : Int → Int → Int} {K : PySem.W.Frag} (v w : V) (H : Hp) (Q : VK) (h : ∃ a b z g2, Fz K H v a ∧ Ow K H w b g2 ∧ s2I (fun i j => some (.int (f i j))) a b = some z ∧ PR K H z Q) : ipI f v w H Q := by
  obtain ⟨a, b, z, g2, w1, w2, hz, q⟩ := h
  unfold s2I at hz
  split at hz
  · cases hz
    exact ⟨_, _, (Ow.fz w1).int, w2.int, q.here (.int _)⟩
  · cases hz
theorem y_augA {i : Nat} {x : Str} {e : Expr} {f : FE} {pos' pos : Pos} (hN : X.N.Nodup) (hi : X.N[i]? = some x) (hx : Loc X.env.scope x) (he : XE' X Γ e f) (hf : X.fn x = true ∨ X.env.scope.names.lookup x = some .local := by first | exact .inl rfl | exact .inr rfl | assumption) :
    XS' X Γ (.AugAssign (.Name x pos') .Add e pos) (fAug sIpA i f) := s_aug hN hi hx he ip_add (fun v w H Q h => ip_of v w H Q h) (fun a b z h => s2I_F h) hf
theorem y_augS {i : Nat} {x : Str} {e : Expr} {f : FE} {pos' pos : Pos} (hN : X.N.Nodup) (hi : X.N[i]? = some x) (hx : Loc X.env.scope x) (he : XE' X Γ e f) (hf : X.fn x = true ∨ X.env.scope.names.lookup x = some .local := by first | exact .inl rfl | exact .inr rfl | assumption) :
    XS' X Γ (.AugAssign (.Name x pos') .Sub e pos) (fAug sIpS i f) := s_aug hN hi hx he ip_sub (fun v w H Q h => ip_of v w H Q h) (fun a b z h => s2I_F h) hf
end
end EE

/-! layer E, part S: sorted -/
namespace EE
open PySem PySem.Spec
open PyProof.Rows hiding St
open L2
open PySem.W (dataLe dataLt AllAlike Sortable)
def dLe (a b : D) : Bool := dataLe false toPy a b
def Srt (xs : List D) : Prop := AllAlike (xs.map toPy) ∧ Sortable (xs.map toPy) ∧ (∀ x ∈ xs, D.ok 60 x = true) ∧ xs.length ≤ sizeLine ∧ D.isFL xs = true
noncomputable instance (xs : List D) : Decidable (Srt xs) := Classical.propDecidable _
def lstOf (d : D) : Option (List D) := match d with
  | .nd (.lst _) xs => some xs
  | _ => none
noncomputable def sSorted (ds : List D) : Option D := match ds with
  | [d] => (match lstOf d with
    | some xs => if Srt xs then some (.nd (.lst true) (xs.mergeSort dLe)) else none
    | none => none)
  | _ => none
/-- sorted of a list that reads as data -/
def rSrt (K : PySem.W.Frag) : List V → Hp → VK → Prop := fun vs H Q => ∃ a us xs, vs = [.ref a] ∧ SqL K H a us ∧ us.length = xs.length ∧ (∀ (i : Nat) v d, us[i]? = some v → xs[i]? = some d → ∃ g, Ow K H v d g) ∧ Srt xs ∧
  ∀ p out, H p = none → out.length = xs.length → (∃ ps : List (V × D), ps.map (·.1) = out ∧ ps.map (·.2) = xs.mergeSort dLe ∧ ∀ q ∈ ps, ∃ i : Nat, us[i]? = some q.1 ∧ xs[i]? = some q.2) → Q (.ref p) (upd H p (.lst out))
theorem eachIs_zip {us : List V} {its : List Value} (r : Vals us its) : ∀ (xs : List D), us.length = xs.length → PySem.W.EachIs (fun (u : Value) (p : V × D) => RelV p.1 u) its (us.zip xs) := by
  induction r with
  | nil => intro xs h; cases xs with | nil => exact .nil | cons x xs => cases h
  | @cons v u us its q t ih =>
    intro xs h
    cases xs with
    | nil => cases h
    | cons x xs => exact .cons q (ih xs (by simpa using h))
theorem vals_each {its : List Value} {ps : List (V × D)} (h : PySem.W.EachIs (fun (u : Value) (p : V × D) => RelV p.1 u) its ps) : Vals (ps.map (·.1)) its := by
  induction h with
  | nil => exact .nil
  | cons q t ih => exact .cons q ih
theorem call_srt {X : Cx} {k : Nat} (hr : Room k X.A) : CallR X (.builtin "sorted") (rSrt X.K) := by
  intro pins s σ H vs us Q I rv h
  obtain ⟨a, ws, xs, rfl, hS, hl, kids, ⟨h1, h2, h3, h4, h5⟩, q⟩ := h
  obtain ⟨u, rfl, ru⟩ := rv.one
  cases ru
  obtain ⟨its, r, p, hlen⟩ := I.list hS
  have l1 := r.length
  let bs : List (V × D) := ws.zip xs
  have hb2 : bs.map (·.2) = xs := List.map_snd_zip (by omega)
  have hb1 : bs.map (·.1) = ws := List.map_fst_zip (by omega)
  have hbl : bs.length = xs.length := by rw [← hb2, List.length_map]
  let enc : V × D → PyData := fun p => toPy p.2
  have henc : bs.map enc = xs.map toPy := by rw [← hb2, List.map_map]; rfl
  have e1 : PySem.W.EachIs (fun (u : Value) (p : V × D) => RelV p.1 u) its bs := eachIs_zip r xs hl
  have er : PySem.W.EachIs (fun (u : Value) (p : V × D) => ∃ as, Reads s.heap u (enc p) as) its bs := by
    have key : ∀ (us : List V) (its : List Value) (xs : List D), Vals us its → us.length = xs.length → (∀ (i : Nat) v d, us[i]? = some v → xs[i]? = some d → ∃ g, Ow X.K H v d g) → (∀ x ∈ xs, D.ok 60 x = true) →
        PySem.W.EachIs (fun (u : Value) (p : V × D) => ∃ as, Reads s.heap u (enc p) as) its (us.zip xs) := by
      intro us its xs r
      induction r generalizing xs with
      | nil => intro h _ _; cases xs with | nil => exact .nil | cons x xs => cases h
      | @cons v u us its q t ih =>
        intro h kd ok
        cases xs with
        | nil => cases h
        | cons x xs =>
          obtain ⟨g, w⟩ := kd 0 v x rfl rfl
          exact .cons (Dp.reads I _ v u (w.dp x 60 v g (ok x List.mem_cons_self)) q) (ih xs (by simpa using h) (fun i v d e1 e2 => kd (i + 1) v d (by simpa using e1) (by simpa using e2)) fun y hy => ok y (List.mem_cons_of_mem _ hy))
    exact key ws its xs r hl kids h3
  have hpl : PlainL s.heap a its.toArray := p
  refine PySem.W.sorted_data (R := fun (u : Value) (p : V × D) => RelV p.1 u) (enc := enc) (bs := bs) hpl.isList e1 er (by rw [henc]; exact h1) (by rw [henc]; exact h2) (by rw [hbl]; exact h4) (fun b hb => ?_) fun out ho eo => ?_
  · have hx : b.2 ∈ xs := by rw [← hb2]; exact List.mem_map.mpr ⟨b, hb, rfl⟩
    have := (canLay_toPy b.2 60 (h3 _ hx)).2
    have := hr.un
    show X.A.units + 2 + (toPy b.2).depth < cLine
    omega
  · obtain ⟨ep, he'⟩ := PyProof.Rows.sortedAll_at s.heap its out.toArray
    have ve := vals_each eo
    let ps := bs.mergeSort (dataLe false enc)
    have hp2 : ps.map (·.2) = xs.mergeSort dLe := by
      show (bs.mergeSort (dataLe false enc)).map (·.2) = _
      have q := List.map_mergeSort (r := dataLe false enc) (s := dLe) (f := fun p : V × D => p.2) (l := bs) (fun a _ b _ => rfl)
      rw [hb2] at q
      exact q
    have hol : (ps.map (·.1)).length = xs.length := by
      show ((bs.mergeSort (dataLe false enc)).map (·.1)).length = _
      rw [List.length_map, List.length_mergeSort, hbl]
    have I' : Inv X pins σ (upd H (s.heap.objs.size + 1) (.lst (ps.map (·.1)))) { s with heap := sortedAll s.heap its out.toArray } :=
      I.laid (t' := s.toks) (fun _ _ => PyProof.Rows.sortedAll_old) (Nat.le_succ _) ⟨by rw [hol]; exact h4, out, ep, ve, he'⟩
    refine ⟨.ref (s.heap.objs.size + 1), _, I', (show RelV (.ref (s.heap.objs.size + 1)) (.ref (s.heap.objs.size + 1)) from rfl), q _ _ (I.hok.fresh (Nat.le_succ _)) hol ⟨ps, rfl, hp2, fun z hz => ?_⟩⟩
    have hz' : z ∈ bs := List.mem_mergeSort.mp hz
    obtain ⟨i, hi, ei⟩ := List.getElem_of_mem hz'
    have hi' : i < xs.length := by rw [← hbl]; exact hi
    refine ⟨i, ?_, ?_⟩
    · rw [← hb1, List.getElem?_map, List.getElem?_eq_getElem hi, ei]; rfl
    · rw [← hb2, List.getElem?_map, List.getElem?_eq_getElem hi, ei]; rfl
theorem r_sorted {K : PySem.W.Frag} (vs : List V) (H : Hp) (Q : VK) (h : rSemL K sSorted vs H Q) : rSrt K vs H Q := by
  obtain ⟨ds, z, hr, hz, q⟩ := h
  unfold sSorted at hz
  split at hz
  · rename_i d
    obtain ⟨v, g, rfl, w⟩ := hr.one
    split at hz
    · rename_i xs hxs
      split at hz
      · rename_i hs
        cases hz
        unfold lstOf at hxs
        split at hxs <;> cases hxs
        · obtain ⟨a, us, rfl, h1, h2, h3⟩ := w.lst
          refine ⟨a, us, xs, rfl, h1, h2, h3, hs, fun p out np hl ⟨ps, e1, e2, e3⟩ => ?_⟩
          refine q.newL np (by rw [hl, List.length_mergeSort]) fun i v d g1 g2 => ?_
          rw [← e1] at g1
          rw [← e2] at g2
          rw [List.getElem?_map] at g1 g2
          cases e : ps[i]? with
          | none => rw [e] at g1; cases g1
          | some z =>
            rw [e] at g1 g2
            cases g1; cases g2
            obtain ⟨j, j1, j2⟩ := e3 z (List.mem_of_getElem? e)
            exact kids_fz h3 hs.2.2.2.2 j _ _ j1 j2
      · cases hz
    · cases hz
  · cases hz
theorem f_sorted {X : Cx} {Γ : Ct} {k : Nat} (f : Fit X Γ) (hr : Room k X.A) : BltR X Γ "sorted" sSorted := ⟨_, call_srt hr, by rw [f.K]; exact r_sorted⟩
end EE

/-! layer E, part N: small helps for printed texts -/
namespace EE
open PySem PySem.Spec
open PyProof.Rows hiding St
open L2
theorem len_cons {α : Type} {l : List α} {n : Nat} (h : l.length = n + 1) : ∃ a r, l = a :: r ∧ r.length = n := by
  cases l with
  | nil => cases h
  | cons a r => exact ⟨a, r, rfl, Nat.succ.inj h⟩
theorem len_nil {α : Type} {l : List α} (h : l.length = 0) : l = [] := List.eq_nil_of_length_eq_zero h
theorem bindsE {K : PySem.W.Frag} {x qual : Str} {st : Stmt} {f : Addr} {fd : FuncData} {ps : List Str} (F : Fun K x qual st f fd)
    (h : ∀ (kV doc pm : Value) (an : Option Addr) (cdv ct : Value) (j : Nat) (us ws : List Value), j ≤ ps.length → us.length = j → (us ++ ws).length = ps.length → bindArgs (PySem.W.fnOf x qual (defArgs st) (defBody st) (defScope st) .none kV doc pm an cdv ct) ⟨us, (ps.drop j).zip ws⟩ = pure (ps.zip (us ++ ws))) :
    ∀ (j : Nat) (s : Shared) (us ws : List Value), j ≤ ps.length → us.length = j → (us ++ ws).length = ps.length → BindsTo s fd ⟨us, (ps.drop j).zip ws⟩ (ps.zip (us ++ ws)) := by
  obtain ⟨oc, od, kV, doc, pm, an, cdv, ct, osl, rfl, lk, hcd⟩ := F.ex
  exact fun j s us ws h1 h2 h3 => .of_eq (h kV doc pm an cdv ct j us ws h1 h2 h3)
theorem bs0 {B : Nat → List Value → List Value → Prop} (a0 : B 0 [] []) (j : Nat) (us ws : List Value) (h1 : us.length = j) (h2 : (us ++ ws).length = 0) : B j us ws := by
  subst h1
  match us, ws, h2 with
  | [], [], _ => exact a0
theorem bs1 {B : Nat → List Value → List Value → Prop} (a1 : ∀ u0 : Value, B 1 [u0] []) (a0 : ∀ u0 : Value, B 0 [] [u0]) (j : Nat) (us ws : List Value) (h1 : us.length = j) (h2 : (us ++ ws).length = 1) : B j us ws := by
  subst h1
  match us, ws, h2 with
  | [u0], [], _ => exact a1 u0
  | [], [u0], _ => exact a0 u0
theorem bs2 {B : Nat → List Value → List Value → Prop} (a2 : ∀ u0 u1 : Value, B 2 [u0, u1] []) (a1 : ∀ u0 u1 : Value, B 1 [u0] [u1]) (a0 : ∀ u0 u1 : Value, B 0 [] [u0, u1]) (j : Nat) (us ws : List Value) (h1 : us.length = j) (h2 : (us ++ ws).length = 2) : B j us ws := by
  subst h1
  match us, ws, h2 with
  | [u0, u1], [], _ => exact a2 u0 u1
  | [u0], [u1], _ => exact a1 u0 u1
  | [], [u0, u1], _ => exact a0 u0 u1
theorem bs3 {B : Nat → List Value → List Value → Prop} (a3 : ∀ u0 u1 u2 : Value, B 3 [u0, u1, u2] []) (a2 : ∀ u0 u1 u2 : Value, B 2 [u0, u1] [u2]) (a1 : ∀ u0 u1 u2 : Value, B 1 [u0] [u1, u2]) (a0 : ∀ u0 u1 u2 : Value, B 0 [] [u0, u1, u2]) (j : Nat) (us ws : List Value) (h1 : us.length = j) (h2 : (us ++ ws).length = 3) : B j us ws := by
  subst h1
  match us, ws, h2 with
  | [u0, u1, u2], [], _ => exact a3 u0 u1 u2
  | [u0, u1], [u2], _ => exact a2 u0 u1 u2
  | [u0], [u1, u2], _ => exact a1 u0 u1 u2
  | [], [u0, u1, u2], _ => exact a0 u0 u1 u2
theorem bs4 {B : Nat → List Value → List Value → Prop} (a4 : ∀ u0 u1 u2 u3 : Value, B 4 [u0, u1, u2, u3] []) (a3 : ∀ u0 u1 u2 u3 : Value, B 3 [u0, u1, u2] [u3]) (a2 : ∀ u0 u1 u2 u3 : Value, B 2 [u0, u1] [u2, u3]) (a1 : ∀ u0 u1 u2 u3 : Value, B 1 [u0] [u1, u2, u3]) (a0 : ∀ u0 u1 u2 u3 : Value, B 0 [] [u0, u1, u2, u3]) (j : Nat) (us ws : List Value) (h1 : us.length = j) (h2 : (us ++ ws).length = 4) : B j us ws := by
  subst h1
  match us, ws, h2 with
  | [u0, u1, u2, u3], [], _ => exact a4 u0 u1 u2 u3
  | [u0, u1, u2], [u3], _ => exact a3 u0 u1 u2 u3
  | [u0, u1], [u2, u3], _ => exact a2 u0 u1 u2 u3
  | [u0], [u1, u2, u3], _ => exact a1 u0 u1 u2 u3
  | [], [u0, u1, u2, u3], _ => exact a0 u0 u1 u2 u3
theorem bs5 {B : Nat → List Value → List Value → Prop} (a5 : ∀ u0 u1 u2 u3 u4 : Value, B 5 [u0, u1, u2, u3, u4] []) (a4 : ∀ u0 u1 u2 u3 u4 : Value, B 4 [u0, u1, u2, u3] [u4]) (a3 : ∀ u0 u1 u2 u3 u4 : Value, B 3 [u0, u1, u2] [u3, u4]) (a2 : ∀ u0 u1 u2 u3 u4 : Value, B 2 [u0, u1] [u2, u3, u4]) (a1 : ∀ u0 u1 u2 u3 u4 : Value, B 1 [u0] [u1, u2, u3, u4]) (a0 : ∀ u0 u1 u2 u3 u4 : Value, B 0 [] [u0, u1, u2, u3, u4]) (j : Nat) (us ws : List Value) (h1 : us.length = j) (h2 : (us ++ ws).length = 5) : B j us ws := by
  subst h1
  match us, ws, h2 with
  | [u0, u1, u2, u3, u4], [], _ => exact a5 u0 u1 u2 u3 u4
  | [u0, u1, u2, u3], [u4], _ => exact a4 u0 u1 u2 u3 u4
  | [u0, u1, u2], [u3, u4], _ => exact a3 u0 u1 u2 u3 u4
  | [u0, u1], [u2, u3, u4], _ => exact a2 u0 u1 u2 u3 u4
  | [u0], [u1, u2, u3, u4], _ => exact a1 u0 u1 u2 u3 u4
  | [], [u0, u1, u2, u3, u4], _ => exact a0 u0 u1 u2 u3 u4
theorem bs6 {B : Nat → List Value → List Value → Prop} (a6 : ∀ u0 u1 u2 u3 u4 u5 : Value, B 6 [u0, u1, u2, u3, u4, u5] []) (a5 : ∀ u0 u1 u2 u3 u4 u5 : Value, B 5 [u0, u1, u2, u3, u4] [u5]) (a4 : ∀ u0 u1 u2 u3 u4 u5 : Value, B 4 [u0, u1, u2, u3] [u4, u5]) (a3 : ∀ u0 u1 u2 u3 u4 u5 : Value, B 3 [u0, u1, u2] [u3, u4, u5]) (a2 : ∀ u0 u1 u2 u3 u4 u5 : Value, B 2 [u0, u1] [u2, u3, u4, u5]) (a1 : ∀ u0 u1 u2 u3 u4 u5 : Value, B 1 [u0] [u1, u2, u3, u4, u5]) (a0 : ∀ u0 u1 u2 u3 u4 u5 : Value, B 0 [] [u0, u1, u2, u3, u4, u5]) (j : Nat) (us ws : List Value) (h1 : us.length = j) (h2 : (us ++ ws).length = 6) : B j us ws := by
  subst h1
  match us, ws, h2 with
  | [u0, u1, u2, u3, u4, u5], [], _ => exact a6 u0 u1 u2 u3 u4 u5
  | [u0, u1, u2, u3, u4], [u5], _ => exact a5 u0 u1 u2 u3 u4 u5
  | [u0, u1, u2, u3], [u4, u5], _ => exact a4 u0 u1 u2 u3 u4 u5
  | [u0, u1, u2], [u3, u4, u5], _ => exact a3 u0 u1 u2 u3 u4 u5
  | [u0, u1], [u2, u3, u4, u5], _ => exact a2 u0 u1 u2 u3 u4 u5
  | [u0], [u1, u2, u3, u4, u5], _ => exact a1 u0 u1 u2 u3 u4 u5
  | [], [u0, u1, u2, u3, u4, u5], _ => exact a0 u0 u1 u2 u3 u4 u5
theorem bs7 {B : Nat → List Value → List Value → Prop} (a7 : ∀ u0 u1 u2 u3 u4 u5 u6 : Value, B 7 [u0, u1, u2, u3, u4, u5, u6] []) (a6 : ∀ u0 u1 u2 u3 u4 u5 u6 : Value, B 6 [u0, u1, u2, u3, u4, u5] [u6]) (a5 : ∀ u0 u1 u2 u3 u4 u5 u6 : Value, B 5 [u0, u1, u2, u3, u4] [u5, u6]) (a4 : ∀ u0 u1 u2 u3 u4 u5 u6 : Value, B 4 [u0, u1, u2, u3] [u4, u5, u6]) (a3 : ∀ u0 u1 u2 u3 u4 u5 u6 : Value, B 3 [u0, u1, u2] [u3, u4, u5, u6]) (a2 : ∀ u0 u1 u2 u3 u4 u5 u6 : Value, B 2 [u0, u1] [u2, u3, u4, u5, u6]) (a1 : ∀ u0 u1 u2 u3 u4 u5 u6 : Value, B 1 [u0] [u1, u2, u3, u4, u5, u6]) (a0 : ∀ u0 u1 u2 u3 u4 u5 u6 : Value, B 0 [] [u0, u1, u2, u3, u4, u5, u6]) (j : Nat) (us ws : List Value) (h1 : us.length = j) (h2 : (us ++ ws).length = 7) : B j us ws := by
  subst h1
  match us, ws, h2 with
  | [u0, u1, u2, u3, u4, u5, u6], [], _ => exact a7 u0 u1 u2 u3 u4 u5 u6
  | [u0, u1, u2, u3, u4, u5], [u6], _ => exact a6 u0 u1 u2 u3 u4 u5 u6
  | [u0, u1, u2, u3, u4], [u5, u6], _ => exact a5 u0 u1 u2 u3 u4 u5 u6
  | [u0, u1, u2, u3], [u4, u5, u6], _ => exact a4 u0 u1 u2 u3 u4 u5 u6
  | [u0, u1, u2], [u3, u4, u5, u6], _ => exact a3 u0 u1 u2 u3 u4 u5 u6
  | [u0, u1], [u2, u3, u4, u5, u6], _ => exact a2 u0 u1 u2 u3 u4 u5 u6
  | [u0], [u1, u2, u3, u4, u5, u6], _ => exact a1 u0 u1 u2 u3 u4 u5 u6
  | [], [u0, u1, u2, u3, u4, u5, u6], _ => exact a0 u0 u1 u2 u3 u4 u5 u6
theorem bs8 {B : Nat → List Value → List Value → Prop} (a8 : ∀ u0 u1 u2 u3 u4 u5 u6 u7 : Value, B 8 [u0, u1, u2, u3, u4, u5, u6, u7] []) (a7 : ∀ u0 u1 u2 u3 u4 u5 u6 u7 : Value, B 7 [u0, u1, u2, u3, u4, u5, u6] [u7]) (a6 : ∀ u0 u1 u2 u3 u4 u5 u6 u7 : Value, B 6 [u0, u1, u2, u3, u4, u5] [u6, u7]) (a5 : ∀ u0 u1 u2 u3 u4 u5 u6 u7 : Value, B 5 [u0, u1, u2, u3, u4] [u5, u6, u7]) (a4 : ∀ u0 u1 u2 u3 u4 u5 u6 u7 : Value, B 4 [u0, u1, u2, u3] [u4, u5, u6, u7]) (a3 : ∀ u0 u1 u2 u3 u4 u5 u6 u7 : Value, B 3 [u0, u1, u2] [u3, u4, u5, u6, u7]) (a2 : ∀ u0 u1 u2 u3 u4 u5 u6 u7 : Value, B 2 [u0, u1] [u2, u3, u4, u5, u6, u7]) (a1 : ∀ u0 u1 u2 u3 u4 u5 u6 u7 : Value, B 1 [u0] [u1, u2, u3, u4, u5, u6, u7]) (a0 : ∀ u0 u1 u2 u3 u4 u5 u6 u7 : Value, B 0 [] [u0, u1, u2, u3, u4, u5, u6, u7]) (j : Nat) (us ws : List Value) (h1 : us.length = j) (h2 : (us ++ ws).length = 8) : B j us ws := by
  subst h1
  match us, ws, h2 with
  | [u0, u1, u2, u3, u4, u5, u6, u7], [], _ => exact a8 u0 u1 u2 u3 u4 u5 u6 u7
  | [u0, u1, u2, u3, u4, u5, u6], [u7], _ => exact a7 u0 u1 u2 u3 u4 u5 u6 u7
  | [u0, u1, u2, u3, u4, u5], [u6, u7], _ => exact a6 u0 u1 u2 u3 u4 u5 u6 u7
  | [u0, u1, u2, u3, u4], [u5, u6, u7], _ => exact a5 u0 u1 u2 u3 u4 u5 u6 u7
  | [u0, u1, u2, u3], [u4, u5, u6, u7], _ => exact a4 u0 u1 u2 u3 u4 u5 u6 u7
  | [u0, u1, u2], [u3, u4, u5, u6, u7], _ => exact a3 u0 u1 u2 u3 u4 u5 u6 u7
  | [u0, u1], [u2, u3, u4, u5, u6, u7], _ => exact a2 u0 u1 u2 u3 u4 u5 u6 u7
  | [u0], [u1, u2, u3, u4, u5, u6, u7], _ => exact a1 u0 u1 u2 u3 u4 u5 u6 u7
  | [], [u0, u1, u2, u3, u4, u5, u6, u7], _ => exact a0 u0 u1 u2 u3 u4 u5 u6 u7
theorem bs9 {B : Nat → List Value → List Value → Prop} (a9 : ∀ u0 u1 u2 u3 u4 u5 u6 u7 u8 : Value, B 9 [u0, u1, u2, u3, u4, u5, u6, u7, u8] []) (a8 : ∀ u0 u1 u2 u3 u4 u5 u6 u7 u8 : Value, B 8 [u0, u1, u2, u3, u4, u5, u6, u7] [u8]) (a7 : ∀ u0 u1 u2 u3 u4 u5 u6 u7 u8 : Value, B 7 [u0, u1, u2, u3, u4, u5, u6] [u7, u8]) (a6 : ∀ u0 u1 u2 u3 u4 u5 u6 u7 u8 : Value, B 6 [u0, u1, u2, u3, u4, u5] [u6, u7, u8]) (a5 : ∀ u0 u1 u2 u3 u4 u5 u6 u7 u8 : Value, B 5 [u0, u1, u2, u3, u4] [u5, u6, u7, u8]) (a4 : ∀ u0 u1 u2 u3 u4 u5 u6 u7 u8 : Value, B 4 [u0, u1, u2, u3] [u4, u5, u6, u7, u8]) (a3 : ∀ u0 u1 u2 u3 u4 u5 u6 u7 u8 : Value, B 3 [u0, u1, u2] [u3, u4, u5, u6, u7, u8]) (a2 : ∀ u0 u1 u2 u3 u4 u5 u6 u7 u8 : Value, B 2 [u0, u1] [u2, u3, u4, u5, u6, u7, u8]) (a1 : ∀ u0 u1 u2 u3 u4 u5 u6 u7 u8 : Value, B 1 [u0] [u1, u2, u3, u4, u5, u6, u7, u8]) (a0 : ∀ u0 u1 u2 u3 u4 u5 u6 u7 u8 : Value, B 0 [] [u0, u1, u2, u3, u4, u5, u6, u7, u8]) (j : Nat) (us ws : List Value) (h1 : us.length = j) (h2 : (us ++ ws).length = 9) : B j us ws := by
  subst h1
  match us, ws, h2 with
  | [u0, u1, u2, u3, u4, u5, u6, u7, u8], [], _ => exact a9 u0 u1 u2 u3 u4 u5 u6 u7 u8
  | [u0, u1, u2, u3, u4, u5, u6, u7], [u8], _ => exact a8 u0 u1 u2 u3 u4 u5 u6 u7 u8
  | [u0, u1, u2, u3, u4, u5, u6], [u7, u8], _ => exact a7 u0 u1 u2 u3 u4 u5 u6 u7 u8
  | [u0, u1, u2, u3, u4, u5], [u6, u7, u8], _ => exact a6 u0 u1 u2 u3 u4 u5 u6 u7 u8
  | [u0, u1, u2, u3, u4], [u5, u6, u7, u8], _ => exact a5 u0 u1 u2 u3 u4 u5 u6 u7 u8
  | [u0, u1, u2, u3], [u4, u5, u6, u7, u8], _ => exact a4 u0 u1 u2 u3 u4 u5 u6 u7 u8
  | [u0, u1, u2], [u3, u4, u5, u6, u7, u8], _ => exact a3 u0 u1 u2 u3 u4 u5 u6 u7 u8
  | [u0, u1], [u2, u3, u4, u5, u6, u7, u8], _ => exact a2 u0 u1 u2 u3 u4 u5 u6 u7 u8
  | [u0], [u1, u2, u3, u4, u5, u6, u7, u8], _ => exact a1 u0 u1 u2 u3 u4 u5 u6 u7 u8
  | [], [u0, u1, u2, u3, u4, u5, u6, u7, u8], _ => exact a0 u0 u1 u2 u3 u4 u5 u6 u7 u8
end EE

/-! layer E, part P: the law's own end -/
namespace EE
open PySem PySem.Spec
open PyProof.Rows hiding St
open L2
/-- the script as data -/
def scr (ns : List Int) : D := .nd (.lst false) (ns.map D.int)
/-- what walk_of asks of the law's def -/
def spL (K : PySem.W.Frag) : Sp := fun vs H Q _ => ∃ (a : Addr) (ns : List Int), vs = [.ref a] ∧ SqZ K H a (ns.map V.int) ∧ ns.length ≤ 63 ∧ ∀ H', Q (.bl true) H'
theorem spL_of {K : PySem.W.Frag} {mg : Str → Option Value} {F : List D → CO} (h : ∀ ns : List Int, ns.length ≤ 63 → ∃ os, os.length = 1 ∧ F [scr ns] = .ok (.bl true) os) (vs : List V) (H : Hp) (Q : VK) (E : XK) (q : spL K vs H Q E) : spF K mg [false] F vs H Q E := by
  obtain ⟨a, ns, rfl, hS, hl, hQ⟩ := q
  obtain ⟨os, lo, hF⟩ := h ns hl
  have w : Fz K H (.ref a) (scr ns) := by
    refine .nd (k := .lst false) hS (by simp) fun i v d e1 e2 => ?_
    rw [List.getElem?_map] at e1 e2
    cases e : ns[i]? with
    | none => rw [e] at e1; cases e1
    | some n => rw [e] at e1 e2; cases e1; cases e2; exact .int n
  refine ⟨[scr ns], fun _ => [], ⟨rfl, rfl, fun i v d e1 e2 => ?_, fun i e => ?_, fun i => List.nodup_nil, fun i j b hb => (nomatch hb), fun i _ => rfl⟩, ?_⟩
  · match i with
    | 0 => cases e1; cases e2; exact .fz w
    | i + 1 => simp at e1
  · match i with
    | 0 => cases e
    | i + 1 => simp at e
  · rw [hF]
    intro v H' g G' _ _ wv _ _ _
    rw [wv.bl]
    exact hQ H'
theorem sqZ_of {K : PySem.W.Frag} {H : Hp} {a : Addr} {vs : List V} (h : SqL K H a vs) (o : Only H) : SqZ K H a vs := by
  rcases h with (h | ⟨ob, h⟩) | h
  · rcases o a with e | ⟨ob, xs, e⟩
    · rw [h] at e; cases e
    · rw [h] at e; cases e
  · exact .inl ⟨ob, h⟩
  · exact .inr h
theorem cx_no {P : Program} {w : World} {H : Hp} {s s' : Shared} {e : Value} (h : L2.CX P w [] H s (fun _ _ _ => False) e s') : False := by
  obtain ⟨_, _, _, _, _, _, _, _, _, _, _, _, z⟩ := h
  exact z
end EE

/-! layer E, part Q: reckoning the semantics -/
namespace EE
open PySem PySem.Spec
open PyProof.Rows hiding St
open L2
theorem seqOf_tup (xs : List D) : seqOf (.nd .tup xs) = some xs := rfl
theorem seqOf_lst (o : Bool) (xs : List D) : seqOf (.nd (.lst o) xs) = some xs := rfl
theorem okI (n : Nat) (i : Int) : D.ok n (.int i) = true := by cases n <;> rfl
theorem sEqI (i j : Int) : sEq (.int i) (.int j) = some (.bl (i == j)) := rfl
theorem sNeI (i j : Int) : sNe (.int i) (.int j) = some (.bl (!(i == j))) := rfl
theorem sEqS (a b : Str) (c : Bool) (h1 : PyData.strOk a = true) (h2 : PyData.strOk b = true) (h3 : (a == b) = c) : sEq (.str a) (.str b) = some (.bl c) := by
  unfold sEq
  rw [if_pos ⟨show PyData.strOk a = true from h1, show PyData.strOk b = true from h2⟩, ← h3]; rfl
theorem runF_def (ms : List Bool) (n : Nat) (B : FS) (ds : List D) : runF ms n B ds = (match B (rho0 ms ds n) with
  | .ok .nx ρ => (match lent ms ρ with | some os => .ok .non os | none => .no)
  | .ok (.rt d) ρ => (match lent ms ρ with | some os => .ok d os | none => .no)
  | .err c fs ρ => (match lent ms ρ with | some os => .err c fs os | none => .no)
  | _ => .no) := rfl
theorem sl0 : 0 < sizeLine := by decide
theorem sl1 : 1 ≤ sizeLine := by decide
theorem sl2 : 2 ≤ sizeLine := by decide
theorem sl3 : 3 ≤ sizeLine := by decide
theorem sl4 : 4 ≤ sizeLine := by decide
theorem kb1 : kitB "tuple" "bool" = some false := by decide +kernel
theorem kb2 : kitB "tuple" "tuple" = some true := by decide +kernel
theorem kb3 : kitB "bool" "bool" = some true := by decide +kernel
theorem kb4 : kitB "int" "bool" = some false := by decide +kernel
theorem kb5 : kitB "str" "bool" = some false := by decide +kernel
theorem kb6 : kitB "int" "tuple" = some false := by decide +kernel
theorem kb7 : kitB "str" "tuple" = some false := by decide +kernel
theorem kb8 : kitB "str" "str" = some true := by decide +kernel
theorem kb9 : kitB "int" "str" = some false := by decide +kernel
theorem kb10 : kitB "int" "int" = some true := by decide +kernel
theorem snoc_cases : ∀ S : List D, S = [] ∨ ∃ S' x, S = S' ++ [x]
  | [] => .inl rfl
  | x :: S => by
    rcases snoc_cases S with rfl | ⟨S', y, rfl⟩
    · exact .inr ⟨[], x, rfl⟩
    · exact .inr ⟨x :: S', y, rfl⟩
theorem eqbL_nil : ∀ xs : List D, D.eqbL xs [] = xs.isEmpty
  | [] => rfl
  | _ :: _ => rfl
theorem pw18 : sPow (.int 10) (.int 18) = some (.int 1000000000000000000) := by
  unfold sPow s2I
  show (if _ then _ else _) = _
  rw [if_pos (show CPow 10 18 from ⟨by decide, by decide, by decide⟩)]
  have : (10 : Int) ^ (Int.toNat 18) = 1000000000000000000 := by decide +kernel
  rw [this]
theorem sm_of {j : Int} (h1 : -1000000000 ≤ j) (h2 : j ≤ 1000000000) : Sm j := ⟨Int.le_trans (by decide) h1, Int.lt_of_le_of_lt h2 (by decide)⟩
theorem upTo_iL (lo : Int) (n : Nat) : ∃ ns : List Int, EE.upTo lo n = ns.map D.int ∧ ns.length = n := ⟨(List.range n).map fun i => (lo + (i : Nat) : Int), by unfold EE.upTo; rw [List.map_map]; rfl, by simp⟩
/-- lists of ints -/
abbrev iL (l : List Int) : List D := l.map D.int
theorem iL_F (l : List Int) : D.isFL (iL l) = true := D.isFL_iff.mpr fun x hx => by
  obtain ⟨n, _, rfl⟩ := List.mem_map.mp hx; rfl
theorem at_int {l : List Int} {i : Nat} (h : i < l.length) : l[i]? = some (l.getD i 0) := by
  rw [List.getD_eq_getElem?_getD, List.getElem?_eq_getElem h]; rfl
theorem at_mem {l : List Int} {i : Nat} (h : i < l.length) : l.getD i 0 ∈ l := by
  rw [List.getD_eq_getElem?_getD, List.getElem?_eq_getElem h]; exact List.getElem_mem h
abbrev bx (a b : Int) : D := .nd (.lst true) [.int a, .int b]
/-! ### loops -/
theorem forL_inv {G : FG} {B : FS} (I : Nat → Rho → Prop) : ∀ (items : List D) (n : Nat) (ρ : Rho), (∀ (i : Nat) (d : D) (ρ : Rho), items[i]? = some d → I (n + i) ρ → ∃ ρ1 ρ2 f, G d ρ = .ok () ρ1 ∧ B ρ1 = .ok f ρ2 ∧ (f = .nx ∨ f = .ct) ∧ I (n + i + 1) ρ2) → I n ρ → ∃ ρ', forL G B items ρ = .ok .nx ρ' ∧ I (n + items.length) ρ'
  | [], n, ρ, _, h => ⟨ρ, rfl, h⟩
  | d :: ds, n, ρ, hs, h => by
    obtain ⟨ρ1, ρ2, f, e1, e2, hf, h2⟩ := hs 0 d ρ rfl h
    have ih := forL_inv I ds (n + 1) ρ2 (fun i x ρ' hx hi => by
      have := hs (i + 1) x ρ' hx (by rw [show n + (i + 1) = n + 1 + i by omega]; exact hi)
      rw [show n + (i + 1) + 1 = n + 1 + i + 1 by omega] at this
      exact this) h2
    obtain ⟨ρ', e3, h3⟩ := ih
    refine ⟨ρ', ?_, by rw [List.length_cons, show n + (ds.length + 1) = n + 1 + ds.length by omega]; exact h3⟩
    rw [forL, e1]
    simp only
    rw [e2]
    rcases hf with rfl | rfl <;> exact e3
theorem lcL_inv {G : FG} {T : FT} {E : FE} {own : List Nat} (I : Nat → Rho → List D → Prop) : ∀ (items : List D) (n : Nat) (acc : List D) (ρ : Rho), (∀ (i : Nat) (d : D) (ρ : Rho) (acc : List D), items[i]? = some d → I (n + i) ρ acc → ∃ ρ1, G d ρ = .ok () ρ1 ∧
      ((∃ ρ2 y ρ3, T ρ1 = .ok true ρ2 ∧ E ρ2 = .ok (.val y) ρ3 ∧ acc.length < sizeLine ∧ I (n + i + 1) (wipeR ρ3 own) (acc ++ [y])) ∨ (∃ ρ2, T ρ1 = .ok false ρ2 ∧ I (n + i + 1) (wipeR ρ2 own) acc))) → I n ρ acc →
      ∃ ρ' acc', lcL G T E own items acc ρ = .ok acc' ρ' ∧ I (n + items.length) ρ' acc'
  | [], n, acc, ρ, _, h => ⟨ρ, acc, rfl, h⟩
  | d :: ds, n, acc, ρ, hs, h => by
    have go : ∀ ρ2 acc2, I (n + 1) ρ2 acc2 → ∃ ρ' acc', lcL G T E own ds acc2 ρ2 = .ok acc' ρ' ∧ I (n + (d :: ds).length) ρ' acc' := fun ρ2 acc2 h2 => by
      have ih := lcL_inv I ds (n + 1) acc2 ρ2 (fun i x ρ' acc' hx hi => by
        have := hs (i + 1) x ρ' acc' hx (by rw [show n + (i + 1) = n + 1 + i by omega]; exact hi)
        rw [show n + (i + 1) + 1 = n + 1 + i + 1 by omega] at this
        exact this) h2
      rw [List.length_cons, show n + (ds.length + 1) = n + 1 + ds.length by omega]
      exact ih
    obtain ⟨ρ1, e1, h1⟩ := hs 0 d ρ acc rfl h
    rcases h1 with ⟨ρ2, y, ρ3, e2, e3, hl, h2⟩ | ⟨ρ2, e2, h2⟩
    · obtain ⟨ρ', acc', e4, h4⟩ := go _ _ h2
      refine ⟨ρ', acc', ?_, h4⟩
      rw [lcL, e1]; simp only; rw [e2]; simp only; rw [e3]; simp only; rw [if_pos hl]; exact e4
    · obtain ⟨ρ', acc', e4, h4⟩ := go _ _ h2
      refine ⟨ρ', acc', ?_, h4⟩
      rw [lcL, e1]; simp only; rw [e2]; exact e4
theorem upTo_len (lo : Int) (n : Nat) : (upTo lo n).length = n := by simp [upTo]
theorem upTo_at {lo : Int} {n i : Nat} {d : D} (h : (upTo lo n)[i]? = some d) : i < n ∧ d = .int (lo + (i : Nat)) := by
  unfold upTo at h
  rw [List.getElem?_map] at h
  by_cases hi : i < n
  · rw [List.getElem?_range hi] at h
    cases h
    exact ⟨hi, rfl⟩
  · rw [List.getElem?_eq_none (by simp; omega)] at h
    cases h
/-! ### plain data: nothing but tuples, ints, truths, None, texts -/
def D.tp : Nat → D → Bool
  | n + 1, .nd k xs => (match k with | .tup => true | _ => false) && xs.all (D.tp n)
  | 0, .nd _ _ => false
  | _, .str x => PyData.strOk x
  | _, _ => true
mutual
def D.sz : D → Nat
  | .nd _ xs => 1 + D.szL xs
  | .non => 1
  | .bl _ => 1
  | .int _ => 1
  | .str _ => 1
def D.szL : List D → Nat
  | [] => 0
  | x :: xs => D.sz x + D.szL xs
end
theorem D.szL_append : ∀ xs ys : List D, D.szL (xs ++ ys) = D.szL xs + D.szL ys
  | [], ys => by simp [D.szL]
  | x :: xs, ys => by simp [D.szL, D.szL_append xs ys]; omega
theorem D.tp_ok : ∀ {n : Nat} {d : D}, D.tp n d = true → D.ok n d = true
  | 0, .nd _ _, h => by simp [D.tp] at h
  | n + 1, .nd k xs, h => by
    simp only [D.tp, Bool.and_eq_true, List.all_eq_true] at h
    simp only [D.ok, Bool.and_eq_true, List.all_eq_true]
    refine ⟨?_, fun x hx => D.tp_ok (h.2 x hx)⟩
    cases k <;> simp_all [kOk]
  | n, .non, _ => by cases n <;> rfl
  | n, .bl _, _ => by cases n <;> rfl
  | n, .int _, _ => by cases n <;> rfl
  | n, .str x, h => by cases n <;> exact h
theorem D.tp_F : ∀ {n : Nat} {d : D}, D.tp n d = true → D.isF d = true
  | 0, .nd _ _, h => by simp [D.tp] at h
  | n + 1, .nd k xs, h => by
    simp only [D.tp, Bool.and_eq_true, List.all_eq_true] at h
    show (k.isF && D.isFL xs) = true
    rw [D.isFL_iff.mpr fun x hx => D.tp_F (h.2 x hx), Bool.and_true]
    cases k <;> simp_all [Kd.isF]
  | n, .non, _ => rfl
  | n, .bl _, _ => rfl
  | n, .int _, _ => rfl
  | n, .str x, h => rfl
theorem D.tp_mono : ∀ {n m : Nat} {d : D}, D.tp n d = true → n ≤ m → D.tp m d = true
  | 0, m, .nd _ _, h, _ => by simp [D.tp] at h
  | n + 1, 0, .nd _ _, _, hm => absurd hm (by omega)
  | n + 1, m + 1, .nd k xs, h, hm => by
    simp only [D.tp, Bool.and_eq_true, List.all_eq_true] at h ⊢
    exact ⟨h.1, fun x hx => D.tp_mono (h.2 x hx) (by omega)⟩
  | n, m, .non, _, _ => by cases m <;> rfl
  | n, m, .bl _, _, _ => by cases m <;> rfl
  | n, m, .int _, _, _ => by cases m <;> rfl
  | n, m, .str x, h, _ => by
    have h : PyData.strOk x = true := by cases n <;> exact h
    cases m <;> exact h
theorem zp_self (xs : List D) : zp xs xs = xs.map fun x => .nd .tup [x, x] := by
  unfold zp
  induction xs with
  | nil => rfl
  | cons x xs ih => simp [ih]
mutual
theorem D.eqb_refl : ∀ (n : Nat) (d : D), D.tp n d = true → D.eqb d d = true
  | n, .nd k xs, h => by
    cases n with
    | zero => simp [D.tp] at h
    | succ n =>
      simp only [D.tp, Bool.and_eq_true, List.all_eq_true] at h
      cases k with
      | tup => show (true && D.eqbL xs xs) = true; rw [D.eqbL_refl n xs h.2]; rfl
      | lst o => simp at h
      | dic o ks => simp at h
  | n, .non, _ => rfl
  | n, .bl b, _ => by simp [D.eqb]
  | n, .int i, _ => by simp [D.eqb]
  | n, .str x, _ => by simp [D.eqb]
theorem D.eqbL_refl : ∀ (n : Nat) (xs : List D), (∀ x ∈ xs, D.tp n x = true) → D.eqbL xs xs = true
  | n, [], _ => rfl
  | n, x :: xs, h => by
    show (D.eqb x x && D.eqbL xs xs) = true
    rw [D.eqb_refl n x (h x List.mem_cons_self), D.eqbL_refl n xs fun y hy => h y (List.mem_cons_of_mem _ hy)]; rfl
end
end EE

/-! layer E, part T: sorting tuples of which some are empty -/
namespace EE
open PySem PySem.Spec PySem.Calls
open PyProof.Rows hiding St
open PySem.SeqAt
open PySem.W (dataLe dataLt AllAlike Sortable alike alikeAll dataKind dataKind_some dataKind_inv SortsAt EachIs Looks)
section
variable {prog : Program} {w : World} {A : Around} {E : Value → Shared → Prop} {s : Shared}
theorem call_tuple_lt {Q : Value → Shared → Prop} {l b : Addr} {items items2 : Array Value} {e r : Nat → Bool} (hl : s.heap.IsTuple l items) (hb : s.heap.IsTuple b items2)
    (he : ∀ j (h1 : j < items.size) (h2 : j < items2.size), EqAt A.in1 s items[j] items2[j] (e j)) (hr : ∀ j (h1 : j < items.size) (h2 : j < items2.size), e j = false → RcLt A.in1 s items[j] items2[j] (r j))
    (h : Q (.bool (firstLt e r (decide (items.size < items2.size)) (List.range (min items.size items2.size)))) s) : wpAny (model prog w) A (call (.builtin "tuple.__lt__") [.ref l, .ref b]) Q E s := by
  obtain ⟨⟨cls, dd, data, sl⟩, ho, hc, n, hd⟩ := id hl
  obtain ⟨⟨cls2, dd2, data2, sl2⟩, ho2, hc2, n2, hd2⟩ := id hb
  simp only at hc hd hc2 hd2
  subst hc hd hc2 hd2
  exact call_meets PySem.F.slot_tuple_lt ⟨_, ho, rfl⟩ PySem.F.entry_tuple_lt (PySem.F.args_tuple_lt_2 _ _) (tuple_ltAt l b items items2 n n2 dd dd2 sl sl2 e r) ⟨ho, ho2, he, hr, h⟩
theorem oneLt_tuples {f : Bool} {xs ys : List PyData} {a b : Value} {as bs : List Addr} {Q : Bool → Shared → Prop} (ra : Reads s.heap a (.tuple xs) as) (rb : Reads s.heap b (.tuple ys) bs) (h : alike (.tuple xs) (.tuple ys) = true)
    (hu : A.units + min (PyData.tuple xs).depth (PyData.tuple ys).depth < cLine) (hq : Q (dataLt (.tuple xs) (.tuple ys)) s) : wpAny (model prog w) A (oneLt' f a b) Q E s := by
  cases f with
  | false =>
    rw [oneLt'_eq]
    simp only [Bool.false_eq_true, if_false]
    exact wpAny_bind (PySem.W.rcLt_alike _ _ A s a b as bs ra rb h (fun z => nomatch z) hu prog w E _ (wpAny_truthy_bool hq))
  | true =>
    have hal : alikeAll xs ys = true := by simpa [alike] using h
    cases ra with
    | @tuple l o vs n _ as₁ h1 h2 h3 h4 =>
      cases rb with
      | @tuple l' o' vs' n' _ bs₁ k1 k2 k3 k4 =>
        have n1 : vs.size = xs.length := by simpa using ReadsAll.length _ _ _ h4
        have n2 : vs'.size = ys.length := by simpa using ReadsAll.length _ _ _ k4
        rw [PySem.W.dataLt_tuple, ← PySem.W.firstLt_toks xs ys hal, ← n1, ← n2] at hq
        rw [oneLt'_eq]
        simp only [if_true]
        refine wpAny_bind (wpAny_cRoomFor (room_here hu) ?_)
        refine wpAny_bind (wpAny_callSpecialIfBound?_slot (T := "tuple") ⟨_, h1, h2⟩ PySem.F.slot_tuple_lt (call_tuple_lt (e := pairEq xs ys) (r := fun j => dataLt (xs.getD j .none) (ys.getD j .none)) ⟨_, h1, h2, _, h3⟩ ⟨_, k1, k2, _, k3⟩ (fun j j1 j2 => ?_) (fun j j1 j2 hj => ?_) ?_))
        · have := PySem.W.eqAt_alikeAll xs ys A.in1 s vs.toList vs'.toList _ _ h4 k4 hal (room_in hu) j (by simpa using j1) (by simpa using j2)
          simpa using this
        · have := PySem.W.rcLt_alikeAll xs ys A.in1 s vs.toList vs'.toList _ _ h4 k4 hal (room_in hu) j (by simpa using j1) (by simpa using j2) hj
          simpa using this
        · exact wpAny_truthy_bool hq
/-- whether the first item is there -/
def hasFirst : PyData → Bool
  | .tuple (_ :: _) => true
  | _ => false
theorem firsts {M : Model} : ∀ {vs : List Value} {ds : List PyData}, EachIs (fun v d => ∃ as, Reads s.heap v d as) vs ds → (∀ d ∈ ds, ∃ xs, d = .tuple xs) →
    ∃ fs : List (Option Value), fs.map (·.isSome) = ds.map hasFirst ∧ ∀ (E : Value → Shared → Prop) {Q : List (Option Value) → Shared → Prop}, Q fs s → wpAny M A (vs.mapM firstOfTuple') Q E s
  | _, _, .nil, _ => ⟨[], rfl, fun E {Q} h => by rw [List.mapM_nil]; exact wpAny_pure h⟩
  | _, _, .cons (a := v) (b := d) (as := vs) (bs := ds) ⟨as, r⟩ t, ht => by
    obtain ⟨fs, h1, h2⟩ := firsts (M := M) t fun d hd => ht d (List.mem_cons_of_mem _ hd)
    obtain ⟨ys, rfl⟩ := ht d List.mem_cons_self
    cases r with
    | @tuple a o xs n _ _ ho hc hd hr =>
      have hs : (xs[0]?).isSome = hasFirst (.tuple ys) := by
        have hl := ReadsAll.length _ _ _ hr
        rw [Array.length_toList] at hl
        cases ys with
        | nil => simp [hasFirst]; simpa using hl
        | cons y ys => simp [hasFirst]; simp at hl; omega
      refine ⟨xs[0]? :: fs, by rw [List.map_cons, List.map_cons, h1, hs], fun E {Q} h => ?_⟩
      rw [List.mapM_cons]
      refine wpAny_bind ?_
      rw [PySem.W.kas_first_eq]
      refine wpAny_bind (Looks.here (show Looks M s.heap (typeOf (.ref a)) o.cls from (Looks.ld ho).andThen .now) ?_)
      rw [hc, if_neg (by first | decide | simp)]
      refine wpAny_bind (listItems_at ho hd (wpAny_pure ?_))
      exact wpAny_bind (h2 E (wpAny_pure h))
theorem kind_mixed {M : Model} {vs : List Value} {ds : List PyData} (e : EachIs (fun v d => ∃ as, Reads s.heap v d as) vs ds) (ht : ∀ d ∈ ds, ∃ xs, d = .tuple xs) (h2 : 2 ≤ vs.length) (hn : ¬ ∀ d ∈ ds, hasFirst d = true) :
    ∃ kd : SortKind, (kd = general' ∨ kd = oneType') ∧ ∀ (E : Value → Shared → Prop) {Q : SortKind → Shared → Prop}, Q kd s → wpAny M A (keyKind' vs.toArray) Q E s := by
  obtain ⟨fs, f1, f2⟩ := firsts (M := M) (A := A) e ht
  have hall : (fs.toArray.all fun x => x.isSome) = false := by
    rw [List.all_toArray]
    have : fs.all (fun x => x.isSome) = (fs.map (·.isSome)).all id := by rw [List.all_map]; rfl
    rw [this, f1, List.all_map]
    cases q : ds.all (id ∘ hasFirst) with
    | false => rfl
    | true => exact absurd (fun d hd => List.all_eq_true.mp q d hd) hn
  by_cases h0 : (fs.toArray[0]?.bind id).isSome = true
  · refine ⟨general', .inl rfl, fun E {Q} h => ?_⟩
    rw [keyKind'_eq, List.mapM_toArray, map_eq_pure_bind]
    refine wpAny_bind (wpAny_bind (f2 E (wpAny_pure ?_)))
    rw [if_neg (by rw [hall]; decide), if_pos h0]
    exact wpAny_pure h
  · refine ⟨oneType', .inr rfl, fun E {Q} h => ?_⟩
    obtain ⟨v₁, v₂, rest, rfl⟩ : ∃ v₁ v₂ rest, vs = v₁ :: v₂ :: rest := by
      match vs, h2 with
      | [], h2 => simp at h2
      | [_], h2 => simp at h2
      | v₁ :: v₂ :: rest, _ => exact ⟨v₁, v₂, rest, rfl⟩
    rw [keyKind'_eq, List.mapM_toArray, map_eq_pure_bind]
    refine wpAny_bind (wpAny_bind (f2 E (wpAny_pure ?_)))
    rw [if_neg (by rw [hall]; decide), if_neg h0]
    rw [oneTypeOnly'_eq, List.mapM_toArray, map_eq_pure_bind]
    have hT : ∀ v ∈ v₁ :: v₂ :: rest, Looks M s.heap (typeOf v) (Value.type "tuple") := fun v hv => by
      obtain ⟨d, hd, as, r⟩ := e.left v hv
      obtain ⟨xs, rfl⟩ := ht d hd
      exact PySem.W.looks_reads r
    refine wpAny_bind (wpAny_bind (wpAny_bind (PySem.W.kas_mapM (r := Value.type "tuple") _ (fun v hv Q' hq => (hT v hv).here hq) (wpAny_pure ?_))))
    have hall2 : ((List.map (fun _ => Value.type "tuple") (v₁ :: v₂ :: rest)).toArray.all fun x => x == Value.type "tuple") = true := by
      simp only [List.all_toArray, List.all_map, List.all_eq_true]
      intro _ _
      exact beq_self_eq_true _
    have h0' : (List.map (fun _ => Value.type "tuple") (v₁ :: v₂ :: rest)).toArray[0]? = some (Value.type "tuple") := by simp
    rw [h0']
    simp only [hall2, if_true]
    exact wpAny_pure (wpAny_pure h)
/-- tuples, some of them empty, can be sorted -/
theorem sortsAt_tuples {vs : List Value} {ds : List PyData} (e : EachIs (fun v d => ∃ as, Reads s.heap v d as) vs ds) (hal : AllAlike ds) (ht : ∀ d ∈ ds, ∃ xs, d = .tuple xs) (hu : ∀ d, d ∈ ds → A.units + d.depth < cLine) : SortsAt prog w A s (dataKind s.heap ds) vs := by
  by_cases hn : ∀ d ∈ ds, hasFirst d = true
  · exact SortsAt.data e hal (.inl fun d hd => by
      obtain ⟨xs, rfl⟩ := ht d hd
      cases xs with
      | nil => exact absurd (hn _ hd) (by decide)
      | cons x r => exact ⟨x, r, rfl⟩) hu
  · have room : ∀ {d d' : PyData}, d ∈ ds → A.units + min d.depth d'.depth < cLine := fun {d d'} hd => Nat.lt_of_le_of_lt (Nat.add_le_add_left (Nat.min_le_left _ _) _) (hu d hd)
    have lt : ∀ kd : SortKind, (kd = general' ∨ kd = oneType') → H.LtAt prog w A s (dataKind s.heap ds) kd := fun kd hk => by
      intro E x y a b Q ha hb hq
      obtain ⟨d, as, hd, ra, rfl⟩ := dataKind_inv ha
      obtain ⟨d', as', hd', rb, rfl⟩ := dataKind_inv hb
      obtain ⟨xs, rfl⟩ := ht d hd
      obtain ⟨ys, rfl⟩ := ht d' hd'
      have ho : ∃ f, keyLt' kd x y = oneLt' f x y := by
        rcases hk with rfl | rfl
        · exact ⟨false, rfl⟩
        · exact ⟨true, rfl⟩
      obtain ⟨f, ho⟩ := ho
      rw [ho]
      exact oneLt_tuples ra rb (hal _ hd _ hd') (room hd) hq
    refine ⟨fun v hv => ?_, ?_⟩
    · obtain ⟨d, hd, as, r⟩ := e.left v hv
      exact ⟨_, dataKind_some hal hd r⟩
    · by_cases h2 : 2 ≤ vs.length
      · obtain ⟨kd, hk, q⟩ := kind_mixed (M := model prog w) (A := A) e ht h2 hn
        exact ⟨kd, lt kd hk, fun _ E Q hq => q E hq⟩
      · exact ⟨general', lt _ (.inl rfl), fun h => absurd h h2⟩
end
end EE

/-! layer E, part U: sorted, of tuples too of which some are empty -/
namespace EE
open PySem PySem.Spec
open PyProof.Rows hiding St
open L2
open PySem.W (dataLe dataLt AllAlike Sortable sorted_vals SortsAt EachIs each_map bound_map sortVals_length sortVals_data sortingHeap copyHeap sorting_copy_old)
def allTup (xs : List D) : Bool := xs.all fun x => match x with | .nd .tup _ => true | _ => false
def SrtT (xs : List D) : Prop := AllAlike (xs.map toPy) ∧ (Sortable (xs.map toPy) ∨ allTup xs = true) ∧ (∀ x ∈ xs, D.ok 60 x = true) ∧ xs.length ≤ sizeLine ∧ D.isFL xs = true
noncomputable instance (xs : List D) : Decidable (SrtT xs) := Classical.propDecidable _
theorem allTup_py {xs : List D} (h : allTup xs = true) : ∀ d ∈ xs.map toPy, ∃ ys, d = .tuple ys := by
  intro d hd
  obtain ⟨x, hx, rfl⟩ := List.mem_map.mp hd
  have := List.all_eq_true.mp h x hx
  cases x with
  | nd k ys => cases k with
    | tup => exact ⟨_, rfl⟩
    | lst _ => simp at this
    | dic _ _ => simp at this
  | _ => simp at this
section
variable {prog : Program} {w : World} {A : Around} {E : Value → Shared → Prop} {s : Shared} {β : Type} {vs : List Value} {bs : List β} {enc : β → PyData} {R : Value → β → Prop}
theorem sorted_any {l : Addr} {Q : Value → Shared → Prop} (hl : s.heap.IsList l vs.toArray) (e : EachIs R vs bs) (er : EachIs (fun v b => ∃ as, Reads s.heap v (enc b) as) vs bs) (hal : AllAlike (bs.map enc)) (hk : Sortable (bs.map enc) ∨ ∀ d ∈ bs.map enc, ∃ ys, d = .tuple ys) (hL : bs.length ≤ sizeLine)
    (hu : ∀ b, b ∈ bs → A.units + 2 + (enc b).depth < cLine) (h : ∀ out, out.length = bs.length → EachIs R out (bs.mergeSort (dataLe false enc)) → Q (.ref (s.heap.objs.size + 1)) { s with heap := sortedAll s.heap vs (List.toArray out) }) :
    wpAny (model prog w) A (call (.builtin "sorted") [.ref l]) Q E s := by
  rcases hk with hk | ht
  · exact PySem.W.sorted_data hl e er hal hk hL hu h
  have er' : EachIs (fun v b => ∃ as, Reads (sortingHeap (copyHeap s.heap vs) (s.heap.objs.size + 1) vs) v (enc b) as) vs bs := er.mono fun _ _ ⟨as, r⟩ => ⟨as, PyProof.Rows.Reads.keeps (fun _ _ => sorting_copy_old) r⟩
  exact sorted_vals hl (sortsAt_tuples (s := { s with heap := sortingHeap (copyHeap s.heap vs) (s.heap.objs.size + 1) vs }) (each_map (R := fun v d => ∃ as, Reads (sortingHeap (copyHeap s.heap vs) (s.heap.objs.size + 1) vs) v d as) enc er') hal ht (bound_map hu)) (by rw [e.length]; exact hL)
    (h _ (by rw [sortVals_length false rfl]; exact e.length) (sortVals_data false e er' hal))
end
noncomputable def sSortT (ds : List D) : Option D := match ds with
  | [d] => (match lstOf d with
    | some xs => if SrtT xs then some (.nd (.lst true) (xs.mergeSort dLe)) else none
    | none => none)
  | _ => none
/-- sorted of a list that reads as data -/
def rSrtT (K : PySem.W.Frag) : List V → Hp → VK → Prop := fun vs H Q => ∃ a us xs, vs = [.ref a] ∧ SqL K H a us ∧ us.length = xs.length ∧ (∀ (i : Nat) v d, us[i]? = some v → xs[i]? = some d → ∃ g, Ow K H v d g) ∧ SrtT xs ∧
  ∀ p out, H p = none → out.length = xs.length → (∃ ps : List (V × D), ps.map (·.1) = out ∧ ps.map (·.2) = xs.mergeSort dLe ∧ ∀ q ∈ ps, ∃ i : Nat, us[i]? = some q.1 ∧ xs[i]? = some q.2) → Q (.ref p) (upd H p (.lst out))
theorem call_srtT {X : Cx} {k : Nat} (hr : Room k X.A) : CallR X (.builtin "sorted") (rSrtT X.K) := by
  intro pins s σ H vs us Q I rv h
  obtain ⟨a, ws, xs, rfl, hS, hl, kids, ⟨h1, h2, h3, h4, h5⟩, q⟩ := h
  obtain ⟨u, rfl, ru⟩ := rv.one
  cases ru
  obtain ⟨its, r, p, hlen⟩ := I.list hS
  have l1 := r.length
  let bs : List (V × D) := ws.zip xs
  have hb2 : bs.map (·.2) = xs := List.map_snd_zip (by omega)
  have hb1 : bs.map (·.1) = ws := List.map_fst_zip (by omega)
  have hbl : bs.length = xs.length := by rw [← hb2, List.length_map]
  let enc : V × D → PyData := fun p => toPy p.2
  have henc : bs.map enc = xs.map toPy := by rw [← hb2, List.map_map]; rfl
  have e1 : PySem.W.EachIs (fun (u : Value) (p : V × D) => RelV p.1 u) its bs := eachIs_zip r xs hl
  have er : PySem.W.EachIs (fun (u : Value) (p : V × D) => ∃ as, Reads s.heap u (enc p) as) its bs := by
    have key : ∀ (us : List V) (its : List Value) (xs : List D), Vals us its → us.length = xs.length → (∀ (i : Nat) v d, us[i]? = some v → xs[i]? = some d → ∃ g, Ow X.K H v d g) → (∀ x ∈ xs, D.ok 60 x = true) →
        PySem.W.EachIs (fun (u : Value) (p : V × D) => ∃ as, Reads s.heap u (enc p) as) its (us.zip xs) := by
      intro us its xs r
      induction r generalizing xs with
      | nil => intro h _ _; cases xs with | nil => exact .nil | cons x xs => cases h
      | @cons v u us its q t ih =>
        intro h kd ok
        cases xs with
        | nil => cases h
        | cons x xs =>
          obtain ⟨g, w⟩ := kd 0 v x rfl rfl
          exact .cons (Dp.reads I _ v u (w.dp x 60 v g (ok x List.mem_cons_self)) q) (ih xs (by simpa using h) (fun i v d e1 e2 => kd (i + 1) v d (by simpa using e1) (by simpa using e2)) fun y hy => ok y (List.mem_cons_of_mem _ hy))
    exact key ws its xs r hl kids h3
  have hpl : PlainL s.heap a its.toArray := p
  refine sorted_any (R := fun (u : Value) (p : V × D) => RelV p.1 u) (enc := enc) (bs := bs) hpl.isList e1 er (by rw [henc]; exact h1) (by rw [henc]; exact h2.imp id allTup_py) (by rw [hbl]; exact h4) (fun b hb => ?_) fun out ho eo => ?_
  · have hx : b.2 ∈ xs := by rw [← hb2]; exact List.mem_map.mpr ⟨b, hb, rfl⟩
    have := (canLay_toPy b.2 60 (h3 _ hx)).2
    have := hr.un
    show X.A.units + 2 + (toPy b.2).depth < cLine
    omega
  · obtain ⟨ep, he'⟩ := PyProof.Rows.sortedAll_at s.heap its out.toArray
    have ve := vals_each eo
    let ps := bs.mergeSort (dataLe false enc)
    have hp2 : ps.map (·.2) = xs.mergeSort dLe := by
      show (bs.mergeSort (dataLe false enc)).map (·.2) = _
      have q := List.map_mergeSort (r := dataLe false enc) (s := dLe) (f := fun p : V × D => p.2) (l := bs) (fun a _ b _ => rfl)
      rw [hb2] at q
      exact q
    have hol : (ps.map (·.1)).length = xs.length := by
      show ((bs.mergeSort (dataLe false enc)).map (·.1)).length = _
      rw [List.length_map, List.length_mergeSort, hbl]
    have I' : Inv X pins σ (upd H (s.heap.objs.size + 1) (.lst (ps.map (·.1)))) { s with heap := sortedAll s.heap its out.toArray } :=
      I.laid (t' := s.toks) (fun _ _ => PyProof.Rows.sortedAll_old) (Nat.le_succ _) ⟨by rw [hol]; exact h4, out, ep, ve, he'⟩
    refine ⟨.ref (s.heap.objs.size + 1), _, I', (show RelV (.ref (s.heap.objs.size + 1)) (.ref (s.heap.objs.size + 1)) from rfl), q _ _ (I.hok.fresh (Nat.le_succ _)) hol ⟨ps, rfl, hp2, fun z hz => ?_⟩⟩
    have hz' : z ∈ bs := List.mem_mergeSort.mp hz
    obtain ⟨i, hi, ei⟩ := List.getElem_of_mem hz'
    have hi' : i < xs.length := by rw [← hbl]; exact hi
    refine ⟨i, ?_, ?_⟩
    · rw [← hb1, List.getElem?_map, List.getElem?_eq_getElem hi, ei]; rfl
    · rw [← hb2, List.getElem?_map, List.getElem?_eq_getElem hi, ei]; rfl
theorem r_sortT {K : PySem.W.Frag} (vs : List V) (H : Hp) (Q : VK) (h : rSemL K sSortT vs H Q) : rSrtT K vs H Q := by
  obtain ⟨ds, z, hr, hz, q⟩ := h
  unfold sSortT at hz
  split at hz
  · rename_i d
    obtain ⟨v, g, rfl, w⟩ := hr.one
    split at hz
    · rename_i xs hxs
      split at hz
      · rename_i hs
        cases hz
        unfold lstOf at hxs
        split at hxs <;> cases hxs
        · obtain ⟨a, us, rfl, h1, h2, h3⟩ := w.lst
          refine ⟨a, us, xs, rfl, h1, h2, h3, hs, fun p out np hl ⟨ps, e1, e2, e3⟩ => ?_⟩
          refine q.newL np (by rw [hl, List.length_mergeSort]) fun i v d g1 g2 => ?_
          rw [← e1] at g1
          rw [← e2] at g2
          rw [List.getElem?_map] at g1 g2
          cases e : ps[i]? with
          | none => rw [e] at g1; cases g1
          | some z =>
            rw [e] at g1 g2
            cases g1; cases g2
            obtain ⟨j, j1, j2⟩ := e3 z (List.mem_of_getElem? e)
            exact kids_fz h3 hs.2.2.2.2 j _ _ j1 j2
      · cases hz
    · cases hz
  · cases hz
theorem f_sortT {X : Cx} {Γ : Ct} {k : Nat} (f : Fit X Γ) (hr : Room k X.A) : BltR X Γ "sorted" sSortT := ⟨_, call_srtT hr, by rw [f.K]; exact r_sortT⟩
end EE

/-! layer E, part V: all, any of a list of truth values; tuple(range(n)), list(range(n)) -/
namespace EE
open PySem PySem.Spec
open PyProof.Rows hiding St
open L2
def blOf : D → Option Bool
  | .bl b => some b
  | _ => none
def blsOf : List D → Option (List Bool)
  | [] => some []
  | d :: ds => match blOf d, blsOf ds with
    | some b, some bs => some (b :: bs)
    | _, _ => none
theorem blsOf_map (bs : List Bool) : blsOf (bs.map D.bl) = some bs := by
  induction bs with
  | nil => rfl
  | cons b bs ih => simp [blsOf, blOf, ih]
def sAll (ds : List D) : Option D := match ds with
  | [d] => (match lstOf d with
    | some xs => (match blsOf xs with
      | some bs => some (.bl (bs.all id))
      | none => none)
    | none => none)
  | _ => none
def sAny (ds : List D) : Option D := match ds with
  | [d] => (match lstOf d with
    | some xs => (match blsOf xs with
      | some bs => some (.bl (bs.any id))
      | none => none)
    | none => none)
  | _ => none
theorem bls_of {K : PySem.W.Frag} {H : Hp} : ∀ {us : List V} {xs : List D} {bs : List Bool}, us.length = xs.length → (∀ (i : Nat) v d, us[i]? = some v → xs[i]? = some d → ∃ g, Ow K H v d g) → blsOf xs = some bs → us = bs.map V.bl
  | [], [], bs, _, _, h => by cases h; rfl
  | [], _ :: _, _, h, _, _ => by cases h
  | _ :: _, [], _, h, _, _ => by cases h
  | u :: us, x :: xs, bs, hl, kd, h => by
    unfold blsOf at h
    cases e1 : blOf x with
    | none => rw [e1] at h; cases h
    | some b =>
      cases e2 : blsOf xs with
      | none => rw [e1, e2] at h; cases h
      | some bs' =>
        rw [e1, e2] at h; cases h
        have hx : x = .bl b := by
          cases x with
          | bl c => cases e1; rfl
          | _ => cases e1
        subst hx
        obtain ⟨g, w⟩ := kd 0 u _ rfl rfl
        rw [List.map_cons, ← bls_of (us := us) (xs := xs) (by simpa using hl) (fun i v d a b => kd (i + 1) v d (by simpa using a) (by simpa using b)) e2, w.bl]
theorem r_allL {K : PySem.W.Frag} (vs : List V) (H : Hp) (Q : VK) (h : rSemL K sAll vs H Q) : rAll K vs H Q := by
  obtain ⟨ds, z, hr, hz, q⟩ := h
  unfold sAll at hz
  split at hz
  · rename_i d
    obtain ⟨v, g, rfl, w⟩ := hr.one
    split at hz
    · rename_i xs hxs
      split at hz
      · rename_i bs hb
        cases hz
        unfold lstOf at hxs
        split at hxs <;> cases hxs
        obtain ⟨a, us, rfl, h1, h2, h3⟩ := w.lst
        exact ⟨a, bs, rfl, bls_of h2 h3 hb ▸ h1, q.here (.bl _)⟩
      · cases hz
    · cases hz
  · cases hz
theorem r_anyL {K : PySem.W.Frag} (vs : List V) (H : Hp) (Q : VK) (h : rSemL K sAny vs H Q) : rAny K vs H Q := by
  obtain ⟨ds, z, hr, hz, q⟩ := h
  unfold sAny at hz
  split at hz
  · rename_i d
    obtain ⟨v, g, rfl, w⟩ := hr.one
    split at hz
    · rename_i xs hxs
      split at hz
      · rename_i bs hb
        cases hz
        unfold lstOf at hxs
        split at hxs <;> cases hxs
        obtain ⟨a, us, rfl, h1, h2, h3⟩ := w.lst
        exact ⟨a, bs, rfl, bls_of h2 h3 hb ▸ h1, q.here (.bl _)⟩
      · cases hz
    · cases hz
  · cases hz
theorem f_all {X : Cx} {Γ : Ct} (f : Fit X Γ) : BltR X Γ "all" sAll := ⟨_, cr_all f.calm, by rw [f.K]; exact r_allL⟩
theorem f_any {X : Cx} {Γ : Ct} (f : Fit X Γ) : BltR X Γ "any" sAny := ⟨_, cr_any f.calm, by rw [f.K]; exact r_anyL⟩
/-! ### tuple(range(..)), list(range(..)) -/
def RgS (a b : Int) : Prop := RgOk a b
noncomputable instance (a b : Int) : Decidable (RgS a b) := Classical.propDecidable _
theorem rgS_of {a b : Int} (h0 : 0 ≤ a) (h1 : b ≤ 16777216) (h2 : a ≤ 16777216) (h3 : 0 ≤ b) : RgS a b := RgOk.of_le h0 h1 h2 h3
noncomputable def sRgT1 : D → Option D
  | .int n => if RgS 0 n then some (.nd .tup (upTo 0 (n - 0).toNat)) else none
  | _ => none
noncomputable def sRgL1 : D → Option D
  | .int n => if RgS 0 n then some (.nd (.lst true) (upTo 0 (n - 0).toNat)) else none
  | _ => none
noncomputable def sRgT2 (x y : D) : Option D := match x, y with
  | .int a, .int b => if RgS a b then some (.nd .tup (upTo a (b - a).toNat)) else none
  | _, _ => none
noncomputable def sRgL2 (x y : D) : Option D := match x, y with
  | .int a, .int b => if RgS a b then some (.nd (.lst true) (upTo a (b - a).toNat)) else none
  | _, _ => none
theorem rg_kids {K : PySem.W.Frag} {H : Hp} (a : Int) (n : Nat) : ∀ (i : Nat) (v : V) (d : D), ((List.range n).map fun i => V.int (a + (i : Nat)))[i]? = some v → (upTo a n)[i]? = some d → Fz K H v d := by
  intro i v d h1 h2
  unfold upTo at h2
  rw [List.getElem?_map] at h1 h2
  cases e : (List.range n)[i]? with
  | none => rw [e] at h1; cases h1
  | some j => rw [e] at h1 h2; cases h1; cases h2; exact .int _
theorem upTo_length (a : Int) (n : Nat) : (upTo a n).length = n := by unfold upTo; rw [List.length_map, List.length_range]
section
variable {X : Cx} {Γ : Ct} {a b : Expr} {fa fb : FE} {p q pos pos2 : Pos}
theorem x_rgT1 (f : Fit X Γ) (hg : Gl X "tuple") (hm : X.mg "tuple" = none) (hg2 : Gl X "range") (hm2 : X.mg "range" = none) (ha : XE' X Γ a fa) (na : starEach [a] X.env = (false, eval a X.env) :: starEach [] X.env := by rfl)
    (na2 : starEach [.Call (.Name "range" q) [a] [] pos2] X.env = (false, eval (.Call (.Name "range" q) [a] [] pos2) X.env) :: starEach [] X.env := by rfl) : XE' X Γ (.Call (.Name "tuple" p) [.Call (.Name "range" q) [a] [] pos2] [] pos) (fOp1 sRgT1 fa) :=
  PE.imp (pe_tupRg f.calm hg hm (prg_1 hg2 hm2 ha na) na2) (op1_go (r := fun v H Q => ∃ n, v = .int n ∧ RgOk 0 n ∧ ∀ q, H q = none → Q (.ref q) (upd H q (.tup (rgV 0 n)))) fun v H Q h => by
    obtain ⟨x, z, g, w, hz, h⟩ := h
    unfold sRgT1 at hz
    split at hz
    · rename_i n
      split at hz
      · rename_i hr
        cases hz
        refine ⟨n, w.int, hr, fun l nl => h.newT nl (by rw [rgV_length, upTo_length]) (rg_kids 0 _)⟩
      · cases hz
    · cases hz)
theorem x_rgL1 (f : Fit X Γ) (hg : Gl X "list") (hm : X.mg "list" = none) (hg2 : Gl X "range") (hm2 : X.mg "range" = none) (ha : XE' X Γ a fa) (na : starEach [a] X.env = (false, eval a X.env) :: starEach [] X.env := by rfl)
    (na2 : starEach [.Call (.Name "range" q) [a] [] pos2] X.env = (false, eval (.Call (.Name "range" q) [a] [] pos2) X.env) :: starEach [] X.env := by rfl) : XE' X Γ (.Call (.Name "list" p) [.Call (.Name "range" q) [a] [] pos2] [] pos) (fOp1 sRgL1 fa) :=
  PE.imp (pe_listRg f.calm hg hm (prg_1 hg2 hm2 ha na) na2) (op1_go (r := fun v H Q => ∃ n, v = .int n ∧ RgOk 0 n ∧ ∀ q, H q = none → Q (.ref q) (upd H q (.lst (rgV 0 n)))) fun v H Q h => by
    obtain ⟨x, z, g, w, hz, h⟩ := h
    unfold sRgL1 at hz
    split at hz
    · rename_i n
      split at hz
      · rename_i hr
        cases hz
        refine ⟨n, w.int, hr, fun l nl => h.newL nl (by rw [rgV_length, upTo_length]) (rg_kids 0 _)⟩
      · cases hz
    · cases hz)
end
end EE

/-! layer T, part A: environments, judgements, expressions -/
namespace EE
open PySem PySem.Spec
open PyProof.Rows hiding St
open L2
/-- what is known of a frame's slots: nothing (but that it isn't lent), or all -/
abbrev Env := List (Option Sl)
def okS : Option Sl → Sl → Prop
  | some s, s' => s' = s
  | none, s' => ∀ d, s' ≠ .io d
def Sat : Env → Rho → Prop
  | [], [] => True
  | a :: Γ, s :: ρ => okS a s ∧ Sat Γ ρ
  | [], _ :: _ => False
  | _ :: _, [] => False
theorem sat_self : ∀ ρ : Rho, Sat (ρ.map some) ρ
  | [] => trivial
  | s :: ρ => ⟨rfl, sat_self ρ⟩
theorem Sat.gt : ∀ {Γ : Env} {ρ : Rho} {i : Nat} {a : Option Sl}, Sat Γ ρ → Γ[i]? = some a → ∃ s, ρ[i]? = some s ∧ okS a s
  | [], _, i, a, _, e => by simp at e
  | b :: Γ, [], i, a, h, e => False.elim h
  | b :: Γ, s :: ρ, 0, a, h, e => by cases e; exact ⟨s, rfl, h.1⟩
  | b :: Γ, s :: ρ, i + 1, a, h, e => by
    obtain ⟨s', h1, h2⟩ := Sat.gt h.2 (i := i) (a := a) (by simpa using e)
    exact ⟨s', by simpa using h1, h2⟩
theorem Sat.at {Γ : Env} {ρ : Rho} {i : Nat} {s : Sl} (h : Sat Γ ρ) (e : Γ[i]? = some (some s)) : ρ[i]? = some s := by
  obtain ⟨s', h1, h2⟩ := h.gt e
  rw [h1, show s' = s from h2]
theorem Sat.put : ∀ {Γ : Env} {ρ : Rho} {a : Option Sl} {s : Sl}, Sat Γ ρ → okS a s → ∀ (i : Nat), Sat (Γ.set i a) (ρ.set i s)
  | [], [], a, s, h, o, i => h
  | [], _ :: _, a, s, h, o, i => False.elim h
  | _ :: _, [], a, s, h, o, i => False.elim h
  | b :: Γ, t :: ρ, a, s, h, o, 0 => ⟨o, h.2⟩
  | b :: Γ, t :: ρ, a, s, h, o, i + 1 => ⟨h.1, Sat.put h.2 o i⟩
theorem Sat.len : ∀ {Γ : Env} {ρ : Rho}, Sat Γ ρ → Γ.length = ρ.length
  | [], [], _ => rfl
  | [], _ :: _, h => False.elim h
  | _ :: _, [], h => False.elim h
  | _ :: Γ, _ :: ρ, h => by simp [Sat.len h.2]
/-- less is known -/
def leS : Option Sl → Option Sl → Prop
  | a, some s => a = some s
  | some s, none => ∀ d, s ≠ .io d
  | none, none => True
def LeE : Env → Env → Prop
  | [], [] => True
  | a :: Γ, b :: Γ' => leS a b ∧ LeE Γ Γ'
  | _, _ => False
theorem leS_ok {a b : Option Sl} {s : Sl} (h : leS a b) (o : okS a s) : okS b s := by
  cases b with
  | some t => have : a = some t := h; rw [this] at o; exact o
  | none => cases a with
    | some t => have : s = t := o; rw [this]; exact h
    | none => exact o
theorem LeE.sat : ∀ {Γ Γ' : Env} {ρ : Rho}, LeE Γ Γ' → Sat Γ ρ → Sat Γ' ρ
  | [], [], _, _, h => h
  | a :: Γ, b :: Γ', [], _, h => False.elim h
  | a :: Γ, b :: Γ', s :: ρ, l, h => ⟨leS_ok l.1 h.1, LeE.sat l.2 h.2⟩
  | [], _ :: _, _, l, _ => False.elim l
  | _ :: _, [], _, l, _ => False.elim l

def slE (Γ : Env) (i : Nat) : Option D := match Γ[i]? with
  | some (some s) => s.dat
  | _ => none
def rdE (Γ : Env) : R → Option D
  | .val d => some d
  | .bor i => slE Γ i
def rdsE (Γ : Env) : List R → Option (List D)
  | [] => some []
  | r :: rs => match rdE Γ r, rdsE Γ rs with
    | some d, some ds => some (d :: ds)
    | _, _ => none
theorem slE_ok {Γ : Env} {ρ : Rho} {i : Nat} {d : D} (h : Sat Γ ρ) (e : slE Γ i = some d) : slot ρ i = some d := by
  unfold slE at e
  split at e
  · rename_i s hs
    unfold slot
    rw [h.at hs]; exact e
  · cases e
theorem rdE_ok {Γ : Env} {ρ : Rho} {r : R} {d : D} (h : Sat Γ ρ) (e : rdE Γ r = some d) : rd ρ r = some d := by
  cases r with
  | val x => exact e
  | bor i => exact slE_ok h e
theorem rdsE_ok {Γ : Env} {ρ : Rho} (h : Sat Γ ρ) : ∀ {rs : List R} {ds : List D}, rdsE Γ rs = some ds → rds ρ rs = some ds
  | [], ds, e => e
  | r :: rs, ds, e => by
    unfold rdsE at e
    split at e
    · rename_i d ds' h1 h2
      cases e
      unfold rds
      rw [rdE_ok h h1, rdsE_ok h h2]
    · cases e

def JE (Γ : Env) (f : FE) (r : R) (Γ' : Env) : Prop := ∀ ρ, Sat Γ ρ → ∃ ρ', f ρ = .ok r ρ' ∧ Sat Γ' ρ'
def JA (Γ : Env) (f : FA) (rs : List R) (Γ' : Env) : Prop := ∀ ρ, Sat Γ ρ → ∃ ρ', f ρ = .ok rs ρ' ∧ Sat Γ' ρ'
def JT (Γ : Env) (f : FT) (b : Bool) (Γ' : Env) : Prop := ∀ ρ, Sat Γ ρ → ∃ ρ', f ρ = .ok b ρ' ∧ Sat Γ' ρ'
def JI (Γ : Env) (f : FI) (xs : List D) (Γ' : Env) : Prop := ∀ ρ, Sat Γ ρ → ∃ ρ', f ρ = .ok xs ρ' ∧ Sat Γ' ρ'
def JO (Γ : Env) (f : FO) (o : Option Int) (Γ' : Env) : Prop := ∀ ρ, Sat Γ ρ → ∃ ρ', f ρ = .ok o ρ' ∧ Sat Γ' ρ'
def JG (Γ : Env) (G : FG) (d : D) (Γ' : Env) : Prop := ∀ ρ, Sat Γ ρ → ∃ ρ', G d ρ = .ok () ρ' ∧ Sat Γ' ρ'
def JS (Γ : Env) (S : FS) (P : Fl → Rho → Prop) : Prop := ∀ ρ, Sat Γ ρ → ∃ fl ρ', S ρ = .ok fl ρ' ∧ P fl ρ'

section
variable {Γ Γ1 Γ2 Γ3 : Env}
theorem je_name {i : Nat} {d : D} (h : slE Γ i = some d) : JE Γ (fName i) (.bor i) Γ := fun ρ s => ⟨ρ, by unfold fName; rw [slE_ok s h], s⟩
theorem je_c {d : D} : JE Γ (fC d) (.val d) Γ := fun ρ s => ⟨ρ, rfl, s⟩
theorem je_op2 {op : D → D → Option D} {fa fb : FE} {ra rb : R} {x y z : D} (ha : JE Γ fa ra Γ1) (hb : JE Γ1 fb rb Γ2) (hx : rdE Γ2 ra = some x) (hy : rdE Γ2 rb = some y) (h : op x y = some z) : JE Γ (fOp2 op fa fb) (.val z) Γ2 := fun ρ s => by
  obtain ⟨ρ1, e1, s1⟩ := ha ρ s
  obtain ⟨ρ2, e2, s2⟩ := hb ρ1 s1
  refine ⟨ρ2, ?_, s2⟩
  unfold fOp2
  rw [e1, Out.bind_ok, e2, Out.bind_ok]
  unfold out2
  rw [rdE_ok s2 hx, rdE_ok s2 hy]
  simp only [h]
theorem je_op1 {op : D → Option D} {fa : FE} {ra : R} {x z : D} (ha : JE Γ fa ra Γ1) (hx : rdE Γ1 ra = some x) (h : op x = some z) : JE Γ (fOp1 op fa) (.val z) Γ1 := fun ρ s => by
  obtain ⟨ρ1, e1, s1⟩ := ha ρ s
  refine ⟨ρ1, ?_, s1⟩
  unfold fOp1
  rw [e1, Out.bind_ok]
  unfold out1
  rw [rdE_ok s1 hx]
  simp only [h]
theorem je_call {sem : List D → Option D} {fs : FA} {rs : List R} {ds : List D} {z : D} (ha : JA Γ fs rs Γ1) (hx : rdsE Γ1 rs = some ds) (h : sem ds = some z) : JE Γ (fCall sem fs) (.val z) Γ1 := fun ρ s => by
  obtain ⟨ρ1, e1, s1⟩ := ha ρ s
  refine ⟨ρ1, ?_, s1⟩
  unfold fCall
  rw [e1, Out.bind_ok]
  unfold outL
  rw [rdsE_ok s1 hx]
  simp only [h]
theorem ja_nil : JA Γ faNil [] Γ := fun ρ s => ⟨ρ, rfl, s⟩
theorem ja_cons {f : FE} {fs : FA} {r : R} {rs : List R} (ha : JE Γ f r Γ1) (hs : JA Γ1 fs rs Γ2) : JA Γ (faCons f fs) (r :: rs) Γ2 := fun ρ s => by
  obtain ⟨ρ1, e1, s1⟩ := ha ρ s
  obtain ⟨ρ2, e2, s2⟩ := hs ρ1 s1
  refine ⟨ρ2, ?_, s2⟩
  unfold faCons
  rw [e1, Out.bind_ok, e2, Out.bind_ok]
theorem ja_app {fs gs : FA} {rs rs2 : List R} (ha : JA Γ fs rs Γ1) (hs : JA Γ1 gs rs2 Γ2) : JA Γ (faApp fs gs) (rs ++ rs2) Γ2 := fun ρ s => by
  obtain ⟨ρ1, e1, s1⟩ := ha ρ s
  obtain ⟨ρ2, e2, s2⟩ := hs ρ1 s1
  refine ⟨ρ2, ?_, s2⟩
  unfold faApp
  rw [e1, Out.bind_ok, e2, Out.bind_ok]
/-! owning -/
theorem je_ownV {f : FE} {d : D} (h : JE Γ f (.val d) Γ1) : JE Γ (fOwn f) (.val d) Γ1 := fun ρ s => by
  obtain ⟨ρ1, e1, s1⟩ := h ρ s
  exact ⟨ρ1, by unfold fOwn; rw [e1]; rfl, s1⟩
theorem je_ownB {f : FE} {i : Nat} {d : D} (h : JE Γ f (.bor i) Γ1) (hd : slE Γ1 i = some d) (hF : d.isF = true) : JE Γ (fOwn f) (.val d) Γ1 := fun ρ s => by
  obtain ⟨ρ1, e1, s1⟩ := h ρ s
  refine ⟨ρ1, ?_, s1⟩
  unfold fOwn
  rw [e1, Out.bind_ok]
  unfold slE at hd
  split at hd
  · rename_i t ht
    have := s1.at ht
    unfold own ownB
    cases t with
    | un => cases hd
    | dt x => cases hd; simp only [this, hF, if_true]
    | io x => cases hd; simp only [this, hF, if_true]
  · cases hd
/-- what a slot owns is frozen -/
theorem je_ownZ {f : FE} {i : Nat} {d z : D} (h : JE Γ f (.bor i) Γ1) (hd : Γ1[i]? = some (some (.dt d))) (hF : d.isF = false) (hz : d.frz = z) : JE Γ (fOwn f) (.val z) (Γ1.set i (some (.dt z))) := fun ρ s => by
  obtain ⟨ρ1, e1, s1⟩ := h ρ s
  subst hz
  refine ⟨ρ1.set i (.dt d.frz), ?_, s1.put (a := some (.dt d.frz)) rfl i⟩
  unfold fOwn
  rw [e1, Out.bind_ok]
  have := s1.at hd
  unfold own ownB
  simp only [this, hF]
  rfl
theorem je_fzF {f : FE} {d : D} (h : JE Γ (fOwn f) (.val d) Γ1) (hF : d.isF = true) : JE Γ (fFz f) (.val d) Γ1 := fun ρ s => by
  obtain ⟨ρ1, e1, s1⟩ := h ρ s
  refine ⟨ρ1, ?_, s1⟩
  unfold fFz
  rw [e1, Out.bind_ok]
  unfold fzz
  simp only [hF, if_true]
theorem je_fzN {f : FE} {d z : D} (h : JE Γ (fOwn f) (.val d) Γ1) (hF : d.isF = false) (hz : d.frz = z) : JE Γ (fFz f) (.val z) Γ1 := fun ρ s => by
  obtain ⟨ρ1, e1, s1⟩ := h ρ s
  subst hz
  refine ⟨ρ1, ?_, s1⟩
  unfold fFz
  rw [e1, Out.bind_ok]
  unfold fzz
  simp only [hF]
  rfl
theorem je_mvV {f : FE} {d : D} (h : JE Γ f (.val d) Γ1) : JE Γ (fMv f) (.val d) Γ1 := fun ρ s => by
  obtain ⟨ρ1, e1, s1⟩ := h ρ s
  exact ⟨ρ1, by unfold fMv; rw [e1]; rfl, s1⟩
theorem je_mvB {f : FE} {i : Nat} {d : D} (h : JE Γ f (.bor i) Γ1) (hd : Γ1[i]? = some (some (.dt d))) : JE Γ (fMv f) (.val d) (Γ1.set i (some .un)) := fun ρ s => by
  obtain ⟨ρ1, e1, s1⟩ := h ρ s
  refine ⟨ρ1.set i .un, ?_, s1.put (a := some .un) rfl i⟩
  unfold fMv
  rw [e1, Out.bind_ok]
  have := s1.at hd
  unfold mv
  simp only [this]
/-! displays -/
theorem je_tup {fs : FA} {rs : List R} {ds : List D} (h : JA Γ fs rs Γ1) (hv : valsOf rs = some ds) (hl : ds.length ≤ sizeLine) : JE Γ (fTup fs) (.val (.nd .tup ds)) Γ1 := fun ρ s => by
  obtain ⟨ρ1, e1, s1⟩ := h ρ s
  refine ⟨ρ1, ?_, s1⟩
  unfold fTup
  rw [e1, Out.bind_ok]
  unfold outTup
  simp only [hv, hl, if_true]
theorem je_lst {fs : FA} {rs : List R} {ds : List D} (h : JA Γ fs rs Γ1) (hv : valsOf rs = some ds) (hl : ds.length ≤ sizeLine) : JE Γ (fLst fs) (.val (.nd (.lst true) ds)) Γ1 := fun ρ s => by
  obtain ⟨ρ1, e1, s1⟩ := h ρ s
  refine ⟨ρ1, ?_, s1⟩
  unfold fLst
  rw [e1, Out.bind_ok]
  unfold outLst
  simp only [hv, hl, if_true]
/-! tests -/
theorem jt_val {f : FE} {r : R} {b : Bool} (h : JE Γ f r Γ1) (hb : rdE Γ1 r = some (.bl b)) : JT Γ (fB f) b Γ1 := fun ρ s => by
  obtain ⟨ρ1, e1, s1⟩ := h ρ s
  refine ⟨ρ1, ?_, s1⟩
  unfold fB
  rw [e1, Out.bind_ok]
  unfold tstB
  rw [rdE_ok s1 hb]
theorem jt_not {f : FT} {b : Bool} (h : JT Γ f b Γ1) : JT Γ (ftNot f) (!b) Γ1 := fun ρ s => by
  obtain ⟨ρ1, e1, s1⟩ := h ρ s
  exact ⟨ρ1, by unfold ftNot; rw [e1]; rfl, s1⟩
theorem jt_and {f g : FT} {a b : Bool} (h : JT Γ f a Γ1) (hg : a = true → JT Γ1 g b Γ1) : JT Γ (ftAnd f g) (a && b) Γ1 := fun ρ s => by
  obtain ⟨ρ1, e1, s1⟩ := h ρ s
  unfold ftAnd
  rw [e1, Out.bind_ok]
  cases a with
  | false => exact ⟨ρ1, rfl, s1⟩
  | true => obtain ⟨ρ2, e2, s2⟩ := hg rfl ρ1 s1; exact ⟨ρ2, by rw [if_pos rfl, e2]; rfl, s2⟩
theorem jt_or {f g : FT} {a b : Bool} (h : JT Γ f a Γ1) (hg : a = false → JT Γ1 g b Γ1) : JT Γ (ftOr f g) (a || b) Γ1 := fun ρ s => by
  obtain ⟨ρ1, e1, s1⟩ := h ρ s
  unfold ftOr
  rw [e1, Out.bind_ok]
  cases a with
  | true => exact ⟨ρ1, rfl, s1⟩
  | false => obtain ⟨ρ2, e2, s2⟩ := hg rfl ρ1 s1; exact ⟨ρ2, by rw [if_neg (by decide), e2]; rfl, s2⟩
theorem jt_if {t f g : FT} {c a b : Bool} (h : JT Γ t c Γ1) (ha : c = true → JT Γ1 f a Γ1) (hb : c = false → JT Γ1 g b Γ1) : JT Γ (ftIf t f g) (if c = true then a else b) Γ1 := fun ρ s => by
  obtain ⟨ρ1, e1, s1⟩ := h ρ s
  unfold ftIf
  rw [e1, Out.bind_ok]
  cases c with
  | true => obtain ⟨ρ2, e2, s2⟩ := ha rfl ρ1 s1; exact ⟨ρ2, by rw [if_pos rfl, e2]; rfl, s2⟩
  | false => obtain ⟨ρ2, e2, s2⟩ := hb rfl ρ1 s1; exact ⟨ρ2, by rw [if_neg (by decide), e2]; rfl, s2⟩
theorem jt_yes : JT Γ fYes true Γ := fun ρ s => ⟨ρ, rfl, s⟩
/-! .. that change lent things: G says how -/
theorem jt_andX {σ : Type} (G : σ → Env) {s0 s1 : σ} {f g : FT} {a b : Bool} (h : JT Γ f a (G s0)) (hg : a = true → JT (G s0) g b (G s1)) : JT Γ (ftAnd f g) (a && b) (G (if a = true then s1 else s0)) := fun ρ s => by
  obtain ⟨ρ1, e1, s1⟩ := h ρ s
  unfold ftAnd
  rw [e1, Out.bind_ok]
  cases a with
  | false => exact ⟨ρ1, rfl, s1⟩
  | true => obtain ⟨ρ2, e2, s2⟩ := hg rfl ρ1 s1; exact ⟨ρ2, by rw [if_pos rfl, e2]; rfl, s2⟩
theorem jt_orX {σ : Type} (G : σ → Env) {s0 s1 : σ} {f g : FT} {a b : Bool} (h : JT Γ f a (G s0)) (hg : a = false → JT (G s0) g b (G s1)) : JT Γ (ftOr f g) (a || b) (G (if a = true then s0 else s1)) := fun ρ s => by
  obtain ⟨ρ1, e1, s1⟩ := h ρ s
  unfold ftOr
  rw [e1, Out.bind_ok]
  cases a with
  | true => exact ⟨ρ1, rfl, s1⟩
  | false => obtain ⟨ρ2, e2, s2⟩ := hg rfl ρ1 s1; exact ⟨ρ2, by rw [if_neg (by decide), e2]; rfl, s2⟩
theorem jt_ifX {σ : Type} (G : σ → Env) {s1 s2 : σ} {t f g : FT} {c a b : Bool} (h : JT Γ t c Γ1) (ha : c = true → JT Γ1 f a (G s1)) (hb : c = false → JT Γ1 g b (G s2)) : JT Γ (ftIf t f g) (if c = true then a else b) (G (if c = true then s1 else s2)) := fun ρ s => by
  obtain ⟨ρ1, e1, s1⟩ := h ρ s
  unfold ftIf
  rw [e1, Out.bind_ok]
  cases c with
  | true => obtain ⟨ρ2, e2, s2⟩ := ha rfl ρ1 s1; exact ⟨ρ2, by rw [if_pos rfl, e2]; rfl, s2⟩
  | false => obtain ⟨ρ2, e2, s2⟩ := hb rfl ρ1 s1; exact ⟨ρ2, by rw [if_neg (by decide), e2]; rfl, s2⟩
/-! choices, and, or, not as values -/
theorem je_if {α : Type} (e : α → D) {a b : α} {t : FT} {fa fb : FE} {c : Bool} (h : JT Γ t c Γ1) (ha : c = true → JE Γ1 fa (.val (e a)) Γ2) (hb : c = false → JE Γ1 fb (.val (e b)) Γ2) : JE Γ (fIf t fa fb) (.val (e (if c = true then a else b))) Γ2 := fun ρ s => by
  obtain ⟨ρ1, e1, s1⟩ := h ρ s
  unfold fIf
  rw [e1, Out.bind_ok]
  cases c with
  | true => obtain ⟨ρ2, e2, s2⟩ := ha rfl ρ1 s1; exact ⟨ρ2, by rw [if_pos rfl, e2]; rfl, s2⟩
  | false => obtain ⟨ρ2, e2, s2⟩ := hb rfl ρ1 s1; exact ⟨ρ2, by rw [if_neg (by decide), e2]; rfl, s2⟩
theorem je_ifX {α σ : Type} (e : α → D) (G : σ → Env) {a b : α} {s1 s2 : σ} {t : FT} {fa fb : FE} {c : Bool} (h : JT Γ t c Γ1) (ha : c = true → JE Γ1 fa (.val (e a)) (G s1)) (hb : c = false → JE Γ1 fb (.val (e b)) (G s2)) : JE Γ (fIf t fa fb) (.val (e (if c = true then a else b))) (G (if c = true then s1 else s2)) := fun ρ s => by
  obtain ⟨ρ1, e1, s1⟩ := h ρ s
  unfold fIf
  rw [e1, Out.bind_ok]
  cases c with
  | true => obtain ⟨ρ2, e2, s2⟩ := ha rfl ρ1 s1; exact ⟨ρ2, by rw [if_pos rfl, e2]; rfl, s2⟩
  | false => obtain ⟨ρ2, e2, s2⟩ := hb rfl ρ1 s1; exact ⟨ρ2, by rw [if_neg (by decide), e2]; rfl, s2⟩
theorem je_and {f g : FE} {a b : Bool} (h : JT Γ (fB f) a Γ1) (hg : a = true → JE Γ1 g (.val (.bl b)) Γ1) : JE Γ (fAnd f g) (.val (.bl (a && b))) Γ1 := fun ρ s => by
  obtain ⟨ρ1, e1, s1⟩ := h ρ s
  unfold fAnd
  rw [e1, Out.bind_ok]
  cases a with
  | false => exact ⟨ρ1, rfl, s1⟩
  | true => obtain ⟨ρ2, e2, s2⟩ := hg rfl ρ1 s1; exact ⟨ρ2, by rw [if_pos rfl, e2]; rfl, s2⟩
theorem je_or {f g : FE} {a b : Bool} (h : JT Γ (fB f) a Γ1) (hg : a = false → JE Γ1 g (.val (.bl b)) Γ1) : JE Γ (fOr f g) (.val (.bl (a || b))) Γ1 := fun ρ s => by
  obtain ⟨ρ1, e1, s1⟩ := h ρ s
  unfold fOr
  rw [e1, Out.bind_ok]
  cases a with
  | true => exact ⟨ρ1, rfl, s1⟩
  | false => obtain ⟨ρ2, e2, s2⟩ := hg rfl ρ1 s1; exact ⟨ρ2, by rw [if_neg (by decide), e2]; rfl, s2⟩
theorem je_not {f : FE} {a : Bool} (h : JT Γ (fB f) a Γ1) : JE Γ (fNot f) (.val (.bl (!a))) Γ1 := fun ρ s => by
  obtain ⟨ρ1, e1, s1⟩ := h ρ s
  exact ⟨ρ1, by unfold fNot; rw [e1]; rfl, s1⟩
/-! less known, otherwise said -/
theorem je_le {f : FE} {r : R} (h : JE Γ f r Γ1) (l : LeE Γ1 Γ2) : JE Γ f r Γ2 := fun ρ s => by
  obtain ⟨ρ1, e1, s1⟩ := h ρ s
  exact ⟨ρ1, e1, l.sat s1⟩
theorem je_frm {f : FE} {r : R} (e : Γ = Γ1) (h : JE Γ1 f r Γ2) : JE Γ f r Γ2 := by rw [e]; exact h
theorem je_to {f : FE} {r : R} (h : JE Γ f r Γ1) (e : Γ1 = Γ2) : JE Γ f r Γ2 := by rw [← e]; exact h
theorem je_res {f : FE} {d d' : D} (h : JE Γ f (.val d) Γ1) (e : d = d') : JE Γ f (.val d') Γ1 := by rw [← e]; exact h
theorem jt_frm {f : FT} {b : Bool} (e : Γ = Γ1) (h : JT Γ1 f b Γ2) : JT Γ f b Γ2 := by rw [e]; exact h
theorem jt_to {f : FT} {b : Bool} (h : JT Γ f b Γ1) (e : Γ1 = Γ2) : JT Γ f b Γ2 := by rw [← e]; exact h
theorem js_frm {S : FS} {P : Fl → Rho → Prop} (e : Γ = Γ1) (h : JS Γ1 S P) : JS Γ S P := by rw [e]; exact h
theorem js_le {S : FS} {P : Fl → Rho → Prop} (l : LeE Γ Γ1) (h : JS Γ1 S P) : JS Γ S P := fun ρ s => h ρ (l.sat s)
/-! slices -/
theorem jo_no : JO Γ foNo none Γ := fun ρ s => ⟨ρ, rfl, s⟩
theorem jo_some {f : FE} {r : R} {k : Int} (h : JE Γ f r Γ1) (hk : rdE Γ1 r = some (.int k)) : JO Γ (foSome f) (some k) Γ1 := fun ρ s => by
  obtain ⟨ρ1, e1, s1⟩ := h ρ s
  refine ⟨ρ1, ?_, s1⟩
  unfold foSome
  rw [e1, Out.bind_ok]
  unfold oint
  rw [rdE_ok s1 hk]
theorem je_slT {f : FE} {lo hi : FO} {r : R} {l u : Option Int} {xs : List D} (h : JE Γ f r Γ1) (hl : JO Γ1 lo l Γ2) (hu : JO Γ2 hi u Γ3) (hx : rdE Γ3 r = some (.nd .tup xs)) (hF : D.isFL xs = true) : JE Γ (fSl f lo hi) (.val (.nd .tup (cutD xs l u))) Γ3 := fun ρ s => by
  obtain ⟨ρ1, e1, s1⟩ := h ρ s
  obtain ⟨ρ2, e2, s2⟩ := hl ρ1 s1
  obtain ⟨ρ3, e3, s3⟩ := hu ρ2 s2
  refine ⟨ρ3, ?_, s3⟩
  unfold fSl
  rw [e1, Out.bind_ok, e2, Out.bind_ok, e3, Out.bind_ok]
  unfold slB
  rw [rdE_ok s3 hx]
  simp only [hF, if_true]
theorem je_slL {f : FE} {lo hi : FO} {r : R} {l u : Option Int} {o : Bool} {xs : List D} (h : JE Γ f r Γ1) (hl : JO Γ1 lo l Γ2) (hu : JO Γ2 hi u Γ3) (hx : rdE Γ3 r = some (.nd (.lst o) xs)) (hF : D.isFL xs = true) : JE Γ (fSl f lo hi) (.val (.nd (.lst true) (cutD xs l u))) Γ3 := fun ρ s => by
  obtain ⟨ρ1, e1, s1⟩ := h ρ s
  obtain ⟨ρ2, e2, s2⟩ := hl ρ1 s1
  obtain ⟨ρ3, e3, s3⟩ := hu ρ2 s2
  refine ⟨ρ3, ?_, s3⟩
  unfold fSl
  rw [e1, Out.bind_ok, e2, Out.bind_ok, e3, Out.bind_ok]
  unfold slB
  rw [rdE_ok s3 hx]
  simp only [hF, if_true]
end
end EE

/-! layer T, part B: targets, statements, loops, comprehensions, calls -/
namespace EE
open PySem PySem.Spec
open PyProof.Rows hiding St
open L2
/-! ### what stands in plain Lean for loops -/
/-- a turn's outcome: on, out of the loop, out of all -/
inductive Fo (σ M : Type) where
  | nx (s : σ) | bk (s : σ) | rt (m : M)
def Fo.to {σ M : Type} (o : Fo σ M) (k : σ → M) : M := match o with
  | .nx s => k s
  | .bk s => k s
  | .rt m => m
def Fo.all {σ M : Type} (o : Fo σ M) (P : σ → Prop) : Prop := match o with
  | .nx s => P s
  | .bk s => P s
  | .rt _ => True
@[simp] theorem Fo.to_nx {σ M : Type} (s : σ) (k : σ → M) : (Fo.nx s : Fo σ M).to k = k s := rfl
@[simp] theorem Fo.to_bk {σ M : Type} (s : σ) (k : σ → M) : (Fo.bk s : Fo σ M).to k = k s := rfl
@[simp] theorem Fo.to_rt {σ M : Type} (m : M) (k : σ → M) : (Fo.rt m : Fo σ M).to k = m := rfl
@[simp] theorem Fo.all_nx {σ M : Type} (s : σ) (P : σ → Prop) : (Fo.nx s : Fo σ M).all P = P s := rfl
@[simp] theorem Fo.all_bk {σ M : Type} (s : σ) (P : σ → Prop) : (Fo.bk s : Fo σ M).all P = P s := rfl
@[simp] theorem Fo.all_rt {σ M : Type} (m : M) (P : σ → Prop) : (Fo.rt m : Fo σ M).all P = True := rfl
def forB {α σ M : Type} (b : α → σ → Fo σ M) : List α → σ → Fo σ M
  | [], s => .nx s
  | x :: xs, s => match b x s with
    | .nx s' => forB b xs s'
    | .bk s' => .nx s'
    | .rt m => .rt m
def forS {α σ M : Type} (S : α → σ → Prop) (b : α → σ → Fo σ M) : List α → σ → Prop
  | [], _ => True
  | x :: xs, s => S x s ∧ match b x s with
    | .nx s' => forS S b xs s'
    | _ => True
def forF {α σ : Type} (b : α → σ → σ) : List α → σ → σ
  | [], s => s
  | x :: xs, s => forF b xs (b x s)
def forSF {α σ : Type} (S : α → σ → Prop) (b : α → σ → σ) : List α → σ → Prop
  | [], _ => True
  | x :: xs, s => S x s ∧ forSF S b xs (b x s)
def whN {σ M : Type} (c : σ → Bool) (b : σ → Fo σ M) : Nat → σ → Option (Fo σ M)
  | 0, _ => none
  | n + 1, s => if c s = true then (match b s with
    | .nx s' => whN c b n s'
    | .bk s' => some (.nx s')
    | .rt m => some (.rt m)) else some (.nx s)
open Classical in
noncomputable def whB {σ M : Type} (c : σ → Bool) (b : σ → Fo σ M) (s : σ) : Fo σ M := if h : ∃ n o, whN c b n s = some o then h.choose_spec.choose else .nx s
def whSN {σ M : Type} (Sc Sb : σ → Prop) (c : σ → Bool) (b : σ → Fo σ M) : Nat → σ → Prop
  | 0, _ => False
  | n + 1, s => Sc s ∧ (c s = true → Sb s ∧ match b s with
    | .nx s' => whSN Sc Sb c b n s'
    | _ => True)
def whS {σ M : Type} (Sc Sb : σ → Prop) (c : σ → Bool) (b : σ → Fo σ M) (s : σ) : Prop := ∃ n, whSN Sc Sb c b n s
theorem whN_succ {σ M : Type} {c : σ → Bool} {b : σ → Fo σ M} : ∀ {n : Nat} {s : σ} {o : Fo σ M}, whN c b n s = some o → whN c b (n + 1) s = some o
  | 0, s, o, h => by cases h
  | n + 1, s, o, h => by
    rw [whN] at h ⊢
    split at h
    · rename_i hc
      rw [if_pos hc]
      cases hb : b s with
      | nx s' => rw [hb] at h; exact whN_succ h
      | bk s' => rw [hb] at h; exact h
      | rt m => rw [hb] at h; exact h
    · rename_i hc
      rw [if_neg hc]; exact h
theorem whN_mono {σ M : Type} {c : σ → Bool} {b : σ → Fo σ M} {n : Nat} {s : σ} {o : Fo σ M} (h : whN c b n s = some o) : ∀ k, whN c b (n + k) s = some o
  | 0 => h
  | k + 1 => whN_succ (whN_mono h k)
theorem whB_eq {σ M : Type} {c : σ → Bool} {b : σ → Fo σ M} {n : Nat} {s : σ} {o : Fo σ M} (h : whN c b n s = some o) : whB c b s = o := by
  have ex : ∃ n o, whN c b n s = some o := ⟨n, o, h⟩
  unfold whB
  rw [dif_pos ex]
  have h1 := whN_mono ex.choose_spec.choose_spec n
  have h2 := whN_mono h ex.choose
  rw [Nat.add_comm] at h1
  rw [h1] at h2
  exact Option.some.inj h2
theorem whSN_some {σ M : Type} {Sc Sb : σ → Prop} {c : σ → Bool} {b : σ → Fo σ M} : ∀ {n : Nat} {s : σ}, whSN Sc Sb c b n s → ∃ o, whN c b n s = some o
  | 0, s, h => False.elim h
  | n + 1, s, ⟨_, h⟩ => by
    rw [whN]
    cases hc : c s with
    | false => exact ⟨_, rfl⟩
    | true =>
      have := (h hc).2
      cases hb : b s with
      | nx s' => rw [hb] at this; obtain ⟨o, e⟩ := whSN_some this; exact ⟨o, by simpa using e⟩
      | bk s' => exact ⟨_, rfl⟩
      | rt m => exact ⟨_, rfl⟩
/-- one turn of a while -/
theorem whB_step {σ M : Type} {Sc Sb : σ → Prop} {c : σ → Bool} {b : σ → Fo σ M} {s : σ} (h : whS Sc Sb c b s) : whB c b s = if c s = true then (match b s with
    | .nx s' => whB c b s'
    | .bk s' => .nx s'
    | .rt m => .rt m) else .nx s := by
  obtain ⟨n, h⟩ := h
  obtain ⟨o, e⟩ := whSN_some h
  cases n with
  | zero => cases e
  | succ n =>
    rw [whB_eq e]
    rw [whN] at e
    split at e
    · rename_i hc
      rw [if_pos hc]
      cases hb : b s with
      | nx s' => rw [hb] at e; exact (whB_eq e).symm
      | bk s' => rw [hb] at e; exact (Option.some.inj e).symm
      | rt m => rw [hb] at e; exact (Option.some.inj e).symm
    · rename_i hc
      rw [if_neg hc]; exact (Option.some.inj e).symm
/-- a while that keeps I and makes μ fall -/
theorem whS_of {σ M : Type} {Sc Sb : σ → Prop} {c : σ → Bool} {b : σ → Fo σ M} (I : σ → Prop) (μ : σ → Nat) (h : ∀ s, I s → Sc s ∧ (c s = true → Sb s ∧ ∀ s', b s = .nx s' → I s' ∧ μ s' < μ s)) : ∀ s, I s → whS Sc Sb c b s := by
  have key : ∀ n s, I s → μ s < n → whSN Sc Sb c b n s := by
    intro n
    induction n with
    | zero => intro s _ h; omega
    | succ n ih =>
      intro s hs hm
      obtain ⟨h1, h2⟩ := h s hs
      refine ⟨h1, fun hc => ⟨(h2 hc).1, ?_⟩⟩
      cases hb : b s with
      | nx s' => obtain ⟨h3, h4⟩ := (h2 hc).2 s' hb; exact ih s' h3 (by omega)
      | bk s' => trivial
      | rt m => trivial
  exact fun s hs => ⟨μ s + 1, key _ s hs (Nat.lt_succ_self _)⟩
theorem forS_of {α σ M : Type} {S : α → σ → Prop} {b : α → σ → Fo σ M} (I : σ → Prop) : ∀ (xs : List α) (s : σ), (∀ x ∈ xs, ∀ s, I s → S x s ∧ ∀ s', b x s = .nx s' → I s') → I s → forS S b xs s
  | [], s, _, _ => trivial
  | x :: xs, s, h, hs => by
    obtain ⟨h1, h2⟩ := h x List.mem_cons_self s hs
    refine ⟨h1, ?_⟩
    cases hb : b x s with
    | nx s' => exact forS_of I xs s' (fun y hy => h y (List.mem_cons_of_mem _ hy)) (h2 s' hb)
    | bk s' => trivial
    | rt m => trivial
theorem forSF_of {α σ : Type} {S : α → σ → Prop} {b : α → σ → σ} (I : σ → Prop) : ∀ (xs : List α) (s : σ), (∀ x ∈ xs, ∀ s, I s → S x s ∧ I (b x s)) → I s → forSF S b xs s
  | [], s, _, _ => trivial
  | x :: xs, s, h, hs => by
    obtain ⟨h1, h2⟩ := h x List.mem_cons_self s hs
    exact ⟨h1, forSF_of I xs _ (fun y hy => h y (List.mem_cons_of_mem _ hy)) h2⟩
theorem forF_inv {α σ : Type} {b : α → σ → σ} (I : σ → Prop) : ∀ (xs : List α) (s : σ), (∀ x ∈ xs, ∀ s, I s → I (b x s)) → I s → I (forF b xs s)
  | [], s, _, h => h
  | x :: xs, s, h, hs => forF_inv I xs _ (fun y hy => h y (List.mem_cons_of_mem _ hy)) (h x List.mem_cons_self s hs)
/-- a loop whose turns all go on -/
theorem forB_nx {α σ M : Type} {b : α → σ → Fo σ M} (I : σ → Prop) : ∀ (xs : List α) (s : σ), (∀ x ∈ xs, ∀ s, I s → ∃ s', b x s = .nx s' ∧ I s') → I s → ∃ s', forB b xs s = .nx s' ∧ I s'
  | [], s, _, h => ⟨s, rfl, h⟩
  | x :: xs, s, h, hs => by
    obtain ⟨s1, e1, h1⟩ := h x List.mem_cons_self s hs
    obtain ⟨s2, e2, h2⟩ := forB_nx I xs s1 (fun y hy => h y (List.mem_cons_of_mem _ hy)) h1
    exact ⟨s2, by rw [forB, e1]; exact e2, h2⟩
theorem forB_F {α σ M : Type} {b : α → σ → Fo σ M} {g : α → σ → σ} : ∀ (xs : List α) (s : σ), (∀ x ∈ xs, ∀ s, b x s = .nx (g x s)) → forB b xs s = .nx (forF g xs s)
  | [], s, _ => rfl
  | x :: xs, s, h => by rw [forB, h x List.mem_cons_self s]; exact forB_F xs _ fun y hy => h y (List.mem_cons_of_mem _ hy)
/-- a comprehension that changes lent things -/
def lcX {α β σ : Type} (b : α → σ → Option β × σ) : List α → σ → List β × σ
  | [], s => ([], s)
  | x :: xs, s => match b x s with
    | (some y, s') => (y :: (lcX b xs s').1, (lcX b xs s').2)
    | (none, s') => lcX b xs s'
def lcSX {α β σ : Type} (S : α → σ → Prop) (b : α → σ → Option β × σ) : List α → σ → Prop
  | [], _ => True
  | x :: xs, s => S x s ∧ lcSX S b xs (b x s).2
theorem lcSX_of {α β σ : Type} {S : α → σ → Prop} {b : α → σ → Option β × σ} (I : σ → Prop) : ∀ (xs : List α) (s : σ), (∀ x ∈ xs, ∀ s, I s → S x s ∧ I (b x s).2) → I s → lcSX S b xs s
  | [], s, _, _ => trivial
  | x :: xs, s, h, hs => by
    obtain ⟨h1, h2⟩ := h x List.mem_cons_self s hs
    exact ⟨h1, lcSX_of I xs _ (fun y hy => h y (List.mem_cons_of_mem _ hy)) h2⟩
theorem lcX_inv {α β σ : Type} {b : α → σ → Option β × σ} (I : σ → Prop) (J : β → Prop) : ∀ (xs : List α) (s : σ), (∀ x ∈ xs, ∀ s, I s → I (b x s).2 ∧ ∀ y, (b x s).1 = some y → J y) → I s → I (lcX b xs s).2 ∧ (∀ y ∈ (lcX b xs s).1, J y) ∧ (lcX b xs s).1.length ≤ xs.length
  | [], s, _, h => ⟨h, (fun _ h => nomatch h), Nat.le_refl _⟩
  | x :: xs, s, h, hs => by
    obtain ⟨h1, h2⟩ := h x List.mem_cons_self s hs
    have ih := lcX_inv I J xs (b x s).2 (fun y hy => h y (List.mem_cons_of_mem _ hy)) h1
    rw [lcX]
    cases hb : b x s with
    | mk o s' =>
      rw [hb] at ih h2
      cases o with
      | none => exact ⟨ih.1, ih.2.1, Nat.le_succ_of_le ih.2.2⟩
      | some y =>
        refine ⟨ih.1, fun z hz => ?_, Nat.succ_le_succ ih.2.2⟩
        rcases List.mem_cons.mp hz with rfl | hz
        · exact h2 _ rfl
        · exact ih.2.1 z hz
def ixI (n : Nat) (i : Int) : Nat := if 0 ≤ i then i.toNat else (i + n).toNat
def getI {α : Type} (xs : List α) (i : Int) (d : α) : α := xs.getD (ixI xs.length i) d
def inI {α : Type} (xs : List α) (i : Int) : Prop := -(xs.length : Int) ≤ i ∧ i < xs.length
theorem ixN_I {α : Type} {xs : List α} {i : Int} (h : inI xs i) : ixN xs.length i = some (ixI xs.length i) ∧ ixI xs.length i < xs.length := by
  obtain ⟨h1, h2⟩ := h
  unfold ixN ixI
  by_cases h0 : 0 ≤ i
  · rw [if_pos h0, if_pos h2, if_pos h0]; exact ⟨rfl, by omega⟩
  · rw [if_neg h0, if_pos h1, if_neg h0]; exact ⟨rfl, by omega⟩

section
variable {Γ Γ1 Γ2 Γ3 : Env}
/-! ### targets -/
def nio (Γ : Env) (i : Nat) : Bool := match Γ[i]? with
  | some none => true
  | some (some .un) => true
  | some (some (.dt _)) => true
  | _ => false
theorem jg_set {i : Nat} {d : D} (h : nio Γ i = true) : JG Γ (gSet i) d (Γ.set i (some (.dt d))) := fun ρ s => by
  refine ⟨ρ.set i (.dt d), ?_, s.put (a := some (.dt d)) rfl i⟩
  unfold nio at h
  unfold gSet
  split at h
  · rename_i e
    obtain ⟨t, h1, h2⟩ := s.gt e
    rw [h1]
    cases t with
    | un => rfl
    | dt x => rfl
    | io x => exact absurd rfl (h2 x)
  · rename_i e
    rw [s.at e]
  · rename_i e
    rw [s.at e]
  · cases h
inductive JGs : Env → List FG → List D → Env → Prop where
  | nil {Γ : Env} : JGs Γ [] [] Γ
  | cons {Γ Γ1 Γ2 : Env} {G : FG} {Gs : List FG} {d : D} {ds : List D} : JG Γ G d Γ1 → JGs Γ1 Gs ds Γ2 → JGs Γ (G :: Gs) (d :: ds) Γ2
theorem JGs.run {Gs : List FG} {ds : List D} (h : JGs Γ Gs ds Γ1) : Gs.length = ds.length ∧ ∀ ρ, Sat Γ ρ → ∃ ρ', gAll Gs ds ρ = .ok () ρ' ∧ Sat Γ1 ρ' := by
  induction h with
  | nil => exact ⟨rfl, fun ρ s => ⟨ρ, rfl, s⟩⟩
  | @cons Γ Γ1 Γ2 G Gs d ds h1 _ ih =>
    refine ⟨by simp [ih.1], fun ρ s => ?_⟩
    obtain ⟨ρ1, e1, s1⟩ := h1 ρ s
    obtain ⟨ρ2, e2, s2⟩ := ih.2 ρ1 s1
    exact ⟨ρ2, by unfold gAll; rw [e1]; exact e2, s2⟩
theorem jg_tup {Gs : List FG} {ds : List D} (h : JGs Γ Gs ds Γ1) : JG Γ (gTup Gs) (.nd .tup ds) Γ1 := fun ρ s => by
  obtain ⟨hl, h⟩ := h.run
  obtain ⟨ρ1, e1, s1⟩ := h ρ s
  refine ⟨ρ1, ?_, s1⟩
  unfold gTup
  simp only [hl, if_true, e1]
theorem jg_to {G : FG} {d : D} (h : JG Γ G d Γ1) (e : Γ1 = Γ2) : JG Γ G d Γ2 := by rw [← e]; exact h
theorem isOwn_sat {ρ : Rho} {w : D → Sl} (hw : ∀ d, (w d).dat = some d) {i : Nat} {xs : List D} (s : Sat Γ ρ) (h : Γ[i]? = some (some (w (.nd (.lst true) xs)))) : isOwn ρ i = true := by
  unfold isOwn slot
  rw [s.at h]
  dsimp only
  rw [hw]
theorem jg_store {α : Type} (e : α → D) (w : D → Sl) (hw : ∀ d, (w d).dat = some d) (hw2 : ∀ d d', wbS (w d) d' = w d') {i : Nat} {fi : FE} {r : R} {k : Int} {xs : List α} {x : α} (hl : slE Γ i = some (.nd (.lst true) (xs.map e))) (h : JE Γ fi r Γ1) (hk : rdE Γ1 r = some (.int k))
    (hs : Γ[i]? = some (some (w (.nd (.lst true) (xs.map e))))) (hs1 : Γ1[i]? = some (some (w (.nd (.lst true) (xs.map e))))) (hI : inI xs k) : JG Γ (gStore i fi) (e x) (Γ1.set i (some (w (.nd (.lst true) ((xs.set (ixI xs.length k) x).map e))))) := fun ρ s => by
  obtain ⟨ρ1, e1, s1⟩ := h ρ s
  refine ⟨ρ1.set i (w (.nd (.lst true) ((xs.set (ixI xs.length k) x).map e))), ?_, s1.put (a := some _) rfl i⟩
  unfold gStore
  rw [if_pos (isOwn_sat hw s hs), e1]
  dsimp only
  unfold stB
  rw [rdE_ok s1 hk]
  dsimp only
  rw [s1.at hs1]
  dsimp only
  rw [hw]
  dsimp only
  rw [List.length_map, (ixN_I hI).1]
  dsimp only
  rw [hw2, List.map_set]

/-! ### statements -/
variable {P : Fl → Rho → Prop} {rest : FS}
theorem js_last {S : FS} (h : JS Γ (fSeq S fNx) P) : JS Γ S P := fun ρ s => by
  obtain ⟨fl, ρ1, e, p⟩ := h ρ s
  unfold fSeq at e
  cases ho : S ρ with
  | no => rw [ho] at e; cases e
  | err c fs ρ1 => rw [ho] at e; cases e
  | ok f ρ2 =>
    rw [ho] at e
    cases f <;> (cases e; exact ⟨_, _, rfl, p⟩)
theorem js_assoc {a b : FS} (h : JS Γ (fSeq a (fSeq b rest)) P) : JS Γ (fSeq (fSeq a b) rest) P := fun ρ s => by
  obtain ⟨fl, ρ1, e, p⟩ := h ρ s
  refine ⟨fl, ρ1, ?_, p⟩
  rw [← e]
  unfold fSeq
  cases a ρ with
  | no => rfl
  | err c fs ρ1 => rfl
  | ok f ρ2 => cases f <;> rfl
theorem js_asg {f : FE} {G : FG} {d : D} (h : JE Γ f (.val d) Γ1) (hg : JG Γ1 G d Γ2) (hr : JS Γ2 rest P) : JS Γ (fSeq (fAsg f G) rest) P := fun ρ s => by
  obtain ⟨ρ1, e1, s1⟩ := h ρ s
  obtain ⟨ρ2, e2, s2⟩ := hg ρ1 s1
  obtain ⟨fl, ρ3, e3, p⟩ := hr ρ2 s2
  refine ⟨fl, ρ3, ?_, p⟩
  unfold fSeq fAsg
  rw [e1, Out.bind_ok]
  unfold asg
  dsimp only
  rw [e2]
  exact e3
theorem js_par {fs : FA} {i j : Nat} {d e : D} {rs : List R} (h : JA Γ fs rs Γ1) (hv : valsOf rs = some [d, e]) (h1 : JG Γ1 (gSet j) e Γ2) (h2 : JG Γ2 (gSet i) d Γ3) (hr : JS Γ3 rest P) : JS Γ (fSeq (fPar i j fs) rest) P := fun ρ s => by
  obtain ⟨ρ1, e1, s1⟩ := h ρ s
  obtain ⟨ρ2, e2, s2⟩ := h1 ρ1 s1
  obtain ⟨ρ3, e3, s3⟩ := h2 ρ2 s2
  obtain ⟨fl, ρ4, e4, p⟩ := hr ρ3 s3
  refine ⟨fl, ρ4, ?_, p⟩
  unfold fSeq fPar
  rw [e1, Out.bind_ok]
  unfold par
  simp only [hv, e2, e3]
  exact e4
theorem js_aug {op : D → D → Option D} {i : Nat} {f : FE} {r : R} {x y z : D} (hx : slE Γ i = some x) (h : JE Γ f r Γ1) (hy : rdE Γ1 r = some y) (hz : op x y = some z) (hg : JG Γ1 (gSet i) z Γ2) (hr : JS Γ2 rest P) : JS Γ (fSeq (fAug op i f) rest) P := fun ρ s => by
  obtain ⟨ρ1, e1, s1⟩ := h ρ s
  obtain ⟨ρ2, e2, s2⟩ := hg ρ1 s1
  obtain ⟨fl, ρ3, e3, p⟩ := hr ρ2 s2
  refine ⟨fl, ρ3, ?_, p⟩
  unfold fSeq fAug
  rw [slE_ok s hx]
  dsimp only
  rw [e1, Out.bind_ok, rdE_ok s1 hy]
  simp only [hz]
  unfold asg
  simp only [e2]
  exact e3
theorem js_drop {f : FE} {r : R} (h : JE Γ f r Γ1) (hr : JS Γ1 rest P) : JS Γ (fSeq (fDrop f) rest) P := fun ρ s => by
  obtain ⟨ρ1, e1, s1⟩ := h ρ s
  obtain ⟨fl, ρ3, e3, p⟩ := hr ρ1 s1
  refine ⟨fl, ρ3, ?_, p⟩
  unfold fSeq fDrop
  rw [e1, Out.bind_ok]
  exact e3
theorem js_ret {f : FE} {d : D} (h : JE Γ f (.val d) Γ1) (hp : ∀ ρ, Sat Γ1 ρ → P (.rt d) ρ) : JS Γ (fSeq (fRet f) rest) P := fun ρ s => by
  obtain ⟨ρ1, e1, s1⟩ := h ρ s
  refine ⟨.rt d, ρ1, ?_, hp ρ1 s1⟩
  unfold fSeq fRet
  rw [e1]
  rfl
theorem js_retN (hp : ∀ ρ, Sat Γ ρ → P (.rt .non) ρ) : JS Γ (fSeq fRetN rest) P := fun ρ s => ⟨.rt .non, ρ, rfl, hp ρ s⟩
theorem js_bk (hp : ∀ ρ, Sat Γ ρ → P .bk ρ) : JS Γ (fSeq fBk rest) P := fun ρ s => ⟨.bk, ρ, rfl, hp ρ s⟩
theorem js_ct (hp : ∀ ρ, Sat Γ ρ → P .ct ρ) : JS Γ (fSeq fCt rest) P := fun ρ s => ⟨.ct, ρ, rfl, hp ρ s⟩
theorem js_nx (hr : JS Γ rest P) : JS Γ (fSeq fNx rest) P := fun ρ s => hr ρ s
theorem js_end (hp : ∀ ρ, Sat Γ ρ → P .nx ρ) : JS Γ fNx P := fun ρ s => ⟨.nx, ρ, rfl, hp ρ s⟩
theorem js_if {M : Type} (K : M → Fl → Rho → Prop) {t : FT} {A B : FS} {c : Bool} {m1 m2 : M} (h : JT Γ t c Γ1) (ha : c = true → JS Γ1 (fSeq A rest) (K m1)) (hb : c = false → JS Γ1 (fSeq B rest) (K m2)) : JS Γ (fSeq (fIfS t A B) rest) (K (if c = true then m1 else m2)) := fun ρ s => by
  obtain ⟨ρ1, e1, s1⟩ := h ρ s
  cases c with
  | true =>
    obtain ⟨fl, ρ2, e2, p⟩ := ha rfl ρ1 s1
    refine ⟨fl, ρ2, ?_, p⟩
    rw [← e2]
    unfold fSeq fIfS
    rw [e1]; rfl
  | false =>
    obtain ⟨fl, ρ2, e2, p⟩ := hb rfl ρ1 s1
    refine ⟨fl, ρ2, ?_, p⟩
    rw [← e2]
    unfold fSeq fIfS
    rw [e1]; rfl
/-- both go on: what they leave is G's -/
def Kj {σ : Type} (G : σ → Env) (s : σ) : Fl → Rho → Prop := fun fl ρ => fl = .nx ∧ Sat (G s) ρ
theorem js_join {σ M : Type} (K : M → Fl → Rho → Prop) (G : σ → Env) {t : FT} {A B : FS} {c : Bool} {s1 s2 : σ} {mr : σ → M} (h : JT Γ t c Γ1) (ha : c = true → JS Γ1 A (Kj G s1)) (hb : c = false → JS Γ1 B (Kj G s2))
    (hr : JS (G (if c = true then s1 else s2)) rest (K (mr (if c = true then s1 else s2)))) : JS Γ (fSeq (fIfS t A B) rest) (K (mr (if c = true then s1 else s2))) := fun ρ s => by
  obtain ⟨ρ1, e1, q1⟩ := h ρ s
  cases c with
  | true =>
    obtain ⟨fl, ρ2, e2, rfl, q2⟩ := ha rfl ρ1 q1
    obtain ⟨fl, ρ3, e3, p⟩ := hr ρ2 q2
    refine ⟨fl, ρ3, ?_, p⟩
    rw [← e3]
    unfold fSeq fIfS
    rw [e1, Out.bind_ok, if_pos rfl, e2]; rfl
  | false =>
    obtain ⟨fl, ρ2, e2, rfl, q2⟩ := hb rfl ρ1 q1
    obtain ⟨fl, ρ3, e3, p⟩ := hr ρ2 q2
    refine ⟨fl, ρ3, ?_, p⟩
    rw [← e3]
    unfold fSeq fIfS
    rw [e1, Out.bind_ok, if_neg (by decide), e2]; rfl
theorem kj_end {σ : Type} {G : σ → Env} {s : σ} (l : LeE Γ (G s)) : JS Γ fNx (Kj G s) := fun ρ q => ⟨.nx, ρ, rfl, rfl, l.sat q⟩
/-! ### loops -/
def Kl {σ M : Type} (K : M → Fl → Rho → Prop) (G : σ → Env) : Fo σ M → Fl → Rho → Prop
  | .nx s, fl, ρ => (fl = .nx ∨ fl = .ct) ∧ Sat (G s) ρ
  | .bk s, fl, ρ => fl = .bk ∧ Sat (G s) ρ
  | .rt m, fl, ρ => (∃ d, fl = .rt d) ∧ K m fl ρ
theorem kl_nx {σ M : Type} {K : M → Fl → Rho → Prop} {G : σ → Env} {s : σ} (l : LeE Γ (G s)) : ∀ ρ, Sat Γ ρ → Kl K G (.nx s) .nx ρ := fun ρ q => ⟨.inl rfl, l.sat q⟩
theorem kl_ct {σ M : Type} {K : M → Fl → Rho → Prop} {G : σ → Env} {s : σ} (l : LeE Γ (G s)) : ∀ ρ, Sat Γ ρ → Kl K G (.nx s) .ct ρ := fun ρ q => ⟨.inr rfl, l.sat q⟩
theorem kl_bk {σ M : Type} {K : M → Fl → Rho → Prop} {G : σ → Env} {s : σ} (l : LeE Γ (G s)) : ∀ ρ, Sat Γ ρ → Kl K G (.bk s) .bk ρ := fun ρ q => ⟨rfl, l.sat q⟩
theorem kl_rt {σ M : Type} {K : M → Fl → Rho → Prop} {G : σ → Env} {m : M} {d : D} (h : ∀ ρ, Sat Γ ρ → K m (.rt d) ρ) : ∀ ρ, Sat Γ ρ → Kl K G (.rt m) (.rt d) ρ := fun ρ q => ⟨⟨d, rfl⟩, h ρ q⟩
theorem forL_ok {α σ M : Type} {K : M → Fl → Rho → Prop} {G : σ → Env} {e : α → D} {tg : FG} {B : FS} {b : α → σ → Fo σ M} {S : α → σ → Prop} (hb : ∀ x s, S x s → ∃ Γx, JG (G s) tg (e x) Γx ∧ JS Γx B (Kl K G (b x s))) : ∀ (xs : List α) (s : σ) (ρ : Rho), forS S b xs s → Sat (G s) ρ →
    ∃ fl ρ', forL tg B (xs.map e) ρ = .ok fl ρ' ∧ (match forB b xs s with
      | .nx s' => fl = .nx ∧ Sat (G s') ρ'
      | .bk s' => False
      | .rt m => (∃ d, fl = .rt d) ∧ K m fl ρ')
  | [], s, ρ, _, q => ⟨.nx, ρ, rfl, rfl, q⟩
  | x :: xs, s, ρ, ⟨h1, h2⟩, q => by
    obtain ⟨Γx, hg, hB⟩ := hb x s h1
    obtain ⟨ρ1, e1, q1⟩ := hg ρ q
    obtain ⟨fl, ρ2, e2, p⟩ := hB ρ1 q1
    rw [List.map_cons, forL, e1]
    dsimp only
    rw [e2]
    rw [forB]
    cases hbx : b x s with
    | nx s' =>
      rw [hbx] at p h2
      obtain ⟨hf, q2⟩ := p
      obtain ⟨fl', ρ3, e3, p3⟩ := forL_ok hb xs s' ρ2 h2 q2
      exact ⟨fl', ρ3, by rcases hf with rfl | rfl <;> exact e3, p3⟩
    | bk s' =>
      rw [hbx] at p
      obtain ⟨rfl, q2⟩ := p
      exact ⟨.nx, ρ2, rfl, rfl, q2⟩
    | rt m =>
      rw [hbx] at p
      obtain ⟨⟨d, rfl⟩, p⟩ := p
      exact ⟨.rt d, ρ2, rfl, ⟨d, rfl⟩, p⟩
theorem js_for {α σ M : Type} (K : M → Fl → Rho → Prop) (G : σ → Env) (e : α → D) {fi : FI} {tg : FG} {B : FS} {b : α → σ → Fo σ M} {S : α → σ → Prop} {Sr : σ → Prop} {mr : σ → M} {xs : List α} {s0 : σ}
    (hi : JI Γ fi (xs.map e) Γ1) (l : LeE Γ1 (G s0)) (hS : forS S b xs s0) (hb : ∀ x s, S x s → ∃ Γx, JG (G s) tg (e x) Γx ∧ JS Γx B (Kl K G (b x s))) (hSr : (forB b xs s0).all Sr) (hr : ∀ s, Sr s → JS (G s) rest (K (mr s))) : JS Γ (fSeq (fFor fi tg B) rest) (K ((forB b xs s0).to mr)) := fun ρ q => by
  obtain ⟨ρ1, e1, q1⟩ := hi ρ q
  obtain ⟨fl, ρ2, e2, p⟩ := forL_ok hb xs s0 ρ1 hS (l.sat q1)
  cases ho : forB b xs s0 with
  | nx s' =>
    rw [ho] at p hSr
    obtain ⟨rfl, q2⟩ := p
    obtain ⟨fl, ρ3, e3, p3⟩ := hr s' hSr ρ2 q2
    refine ⟨fl, ρ3, ?_, p3⟩
    unfold fSeq fFor
    rw [e1, Out.bind_ok, e2]; exact e3
  | bk s' => rw [ho] at p; exact False.elim p
  | rt m =>
    rw [ho] at p
    obtain ⟨⟨d, rfl⟩, p⟩ := p
    refine ⟨.rt d, ρ2, ?_, p⟩
    unfold fSeq fFor
    rw [e1, Out.bind_ok, e2]; rfl
/-- .. none of whose turns leaves -/
theorem js_forF {α σ M : Type} (K : M → Fl → Rho → Prop) (G : σ → Env) (e : α → D) {fi : FI} {tg : FG} {B : FS} {b : α → σ → σ} {S : α → σ → Prop} {mr : σ → M} {xs : List α} {s0 : σ}
    (hi : JI Γ fi (xs.map e) Γ1) (l : LeE Γ1 (G s0)) (hS : forSF S b xs s0) (hb : ∀ x s, S x s → ∃ Γx, JG (G s) tg (e x) Γx ∧ JS Γx B (Kl (M := M) K G (.nx (b x s)))) (hr : JS (G (forF b xs s0)) rest (K (mr (forF b xs s0)))) : JS Γ (fSeq (fFor fi tg B) rest) (K (mr (forF b xs s0))) := by
  have hS' : ∀ (xs : List α) (s : σ), forSF S b xs s → forS (M := M) S (fun x s => .nx (b x s)) xs s := by
    intro xs
    induction xs with
    | nil => intro s _; trivial
    | cons x xs ih => intro s h; exact ⟨h.1, ih _ h.2⟩
  have eB : forB (M := M) (fun x s => .nx (b x s)) xs s0 = .nx (forF b xs s0) := forB_F xs s0 fun _ _ _ => rfl
  have := js_for (rest := rest) (Sr := fun s => s = forF b xs s0) (mr := mr) K G e hi l (hS' xs s0 hS) hb (by rw [eB]; rfl) (fun s hs => by rw [hs]; exact hr)
  rw [eB] at this
  exact this
theorem whileN_ok {σ M : Type} {K : M → Fl → Rho → Prop} {G : σ → Env} {t : FT} {B : FS} {c : σ → Bool} {b : σ → Fo σ M} {Sc Sb : σ → Prop} (hc : ∀ s, Sc s → JT (G s) t (c s) (G s)) (hb : ∀ s, Sc s → c s = true → Sb s → JS (G s) B (Kl K G (b s))) : ∀ (n : Nat) (s : σ) (ρ : Rho), whSN Sc Sb c b n s → Sat (G s) ρ →
    ∃ fl ρ', whileN t B n ρ = .ok fl ρ' ∧ ∃ o, whN c b n s = some o ∧ (match o with
      | .nx s' => fl = .nx ∧ Sat (G s') ρ'
      | .bk s' => False
      | .rt m => (∃ d, fl = .rt d) ∧ K m fl ρ')
  | 0, s, ρ, h, _ => False.elim h
  | n + 1, s, ρ, ⟨h1, h2⟩, q => by
    obtain ⟨ρ1, e1, q1⟩ := hc s h1 ρ q
    rw [whileN, e1, whN]
    cases hcs : c s with
    | false => exact ⟨.nx, ρ1, rfl, _, rfl, rfl, q1⟩
    | true =>
      obtain ⟨h3, h4⟩ := h2 hcs
      obtain ⟨fl, ρ2, e2, p⟩ := hb s h1 hcs h3 ρ1 q1
      dsimp only
      rw [e2, if_pos rfl]
      cases hbx : b s with
      | nx s' =>
        rw [hbx] at p h4
        obtain ⟨hf, q2⟩ := p
        obtain ⟨fl', ρ3, e3, p3⟩ := whileN_ok hc hb n s' ρ2 h4 q2
        exact ⟨fl', ρ3, by rcases hf with rfl | rfl <;> exact e3, p3⟩
      | bk s' =>
        rw [hbx] at p
        obtain ⟨rfl, q2⟩ := p
        exact ⟨.nx, ρ2, rfl, _, rfl, rfl, q2⟩
      | rt m =>
        rw [hbx] at p
        obtain ⟨⟨d, rfl⟩, p⟩ := p
        exact ⟨.rt d, ρ2, rfl, _, rfl, ⟨d, rfl⟩, p⟩
theorem js_while {σ M : Type} (K : M → Fl → Rho → Prop) (G : σ → Env) {t : FT} {B : FS} {c : σ → Bool} {b : σ → Fo σ M} {Sc Sb : σ → Prop} {Sr : σ → Prop} {mr : σ → M} {s0 : σ} (l : LeE Γ (G s0)) (hS : whS Sc Sb c b s0) (hc : ∀ s, Sc s → JT (G s) t (c s) (G s)) (hb : ∀ s, Sc s → c s = true → Sb s → JS (G s) B (Kl K G (b s)))
    (hSr : (whB c b s0).all Sr) (hr : ∀ s, Sr s → JS (G s) rest (K (mr s))) : JS Γ (fSeq (fWhile t B) rest) (K ((whB c b s0).to mr)) := fun ρ q => by
  obtain ⟨n, hS⟩ := hS
  obtain ⟨fl, ρ2, e2, o, ho, p⟩ := whileN_ok hc hb n s0 ρ hS (l.sat q)
  have e1 := fWhile_eq e2 (by intro z; cases z)
  rw [whB_eq ho] at hSr ⊢
  cases o with
  | nx s' =>
    obtain ⟨rfl, q2⟩ := p
    obtain ⟨fl, ρ3, e3, p3⟩ := hr s' hSr ρ2 q2
    exact ⟨fl, ρ3, by unfold fSeq; rw [e1]; exact e3, p3⟩
  | bk s' => exact False.elim p
  | rt m =>
    obtain ⟨⟨d, rfl⟩, p⟩ := p
    exact ⟨.rt d, ρ2, by unfold fSeq; rw [e1]; rfl, p⟩

/-! ### what is gone through -/
theorem ji_seqT {f : FE} {xs : List D} (h : JE Γ (fFz f) (.val (.nd .tup xs)) Γ1) : JI Γ (fiSeq f) xs Γ1 := fun ρ s => by
  obtain ⟨ρ1, e1, s1⟩ := h ρ s
  exact ⟨ρ1, by unfold fiSeq; rw [e1]; rfl, s1⟩
theorem ji_seqL {f : FE} {xs : List D} (h : JE Γ (fFz f) (.val (.nd (.lst false) xs)) Γ1) : JI Γ (fiSeq f) xs Γ1 := fun ρ s => by
  obtain ⟨ρ1, e1, s1⟩ := h ρ s
  exact ⟨ρ1, by unfold fiSeq; rw [e1]; rfl, s1⟩
def rgF (lo : Int) (n : Nat) : List Int := (List.range n).map fun i => lo + (i : Nat)
def rg (n : Int) : List Int := rgF 0 n.toNat
def rg2 (a b : Int) : List Int := rgF a (b - a).toNat
theorem upTo_rgF (lo : Int) (n : Nat) : upTo lo n = (rgF lo n).map D.int := by unfold upTo rgF; rw [List.map_map]; rfl
theorem ji_rng1 {fs : FA} {rs : List R} {n : Int} (h : JA Γ fs rs Γ1) (hr : rdsE Γ1 rs = some [.int n]) (hs : Sm n) : JI Γ (fiRng1 fs) ((rg n).map D.int) Γ1 := fun ρ s => by
  obtain ⟨ρ1, e1, s1⟩ := h ρ s
  refine ⟨ρ1, ?_, s1⟩
  unfold fiRng1
  rw [e1, Out.bind_ok]
  unfold rng1
  rw [rdsE_ok s1 hr]
  simp only [hs, if_true]
  rw [upTo_rgF]; rfl
theorem ji_rng2 {fs : FA} {rs : List R} {a b : Int} (h : JA Γ fs rs Γ1) (hr : rdsE Γ1 rs = some [.int a, .int b]) (h1 : Sm a) (h2 : Sm b) : JI Γ (fiRng2 fs) ((rg2 a b).map D.int) Γ1 := fun ρ s => by
  obtain ⟨ρ1, e1, s1⟩ := h ρ s
  refine ⟨ρ1, ?_, s1⟩
  unfold fiRng2
  rw [e1, Out.bind_ok]
  unfold rng2
  rw [rdsE_ok s1 hr]
  simp only [h1, h2, and_self, if_true]
  rw [upTo_rgF]; rfl
/-- places and items -/
def enumF {α : Type} : Int → List α → List (Int × α)
  | _, [] => []
  | n, x :: xs => (n, x) :: enumF (n + 1) xs
theorem num_map {α : Type} (e : α → D) : ∀ (n : Nat) (xs : List α), num n (xs.map e) = (enumF (n : Int) xs).map fun p => .nd .tup [.int p.1, e p.2]
  | n, [] => rfl
  | n, x :: xs => by
    rw [List.map_cons, num, num_map e (n + 1) xs, enumF, List.map_cons]
    rfl
theorem ji_enum {α : Type} (e : α → D) {f : FE} {k : Kd} {xs : List α} (h : JE Γ (fFz f) (.val (.nd k (xs.map e))) Γ1) (hk : ∀ ys, seqOf (.nd k ys) = some ys) : JI Γ (fiEnum f) ((enumF 0 xs).map fun p => .nd .tup [.int p.1, e p.2]) Γ1 := fun ρ s => by
  obtain ⟨ρ1, e1, s1⟩ := h ρ s
  refine ⟨ρ1, ?_, s1⟩
  unfold fiEnum
  rw [e1, Out.bind_ok]
  unfold enumI
  dsimp only
  rw [hk]
  dsimp only
  rw [num_map]; rfl
theorem zp_maps {α β : Type} (e : α → D) (e' : β → D) : ∀ (xs : List α) (ys : List β), zp (xs.map e) (ys.map e') = (xs.zip ys).map fun p => .nd .tup [e p.1, e' p.2]
  | [], _ => rfl
  | _ :: _, [] => rfl
  | x :: xs, y :: ys => by
    have ih := zp_maps e e' xs ys
    unfold zp at ih ⊢
    rw [List.map_cons, List.map_cons, List.zipWith_cons_cons, ih]; rfl
theorem ji_zip {α β : Type} (e : α → D) (e' : β → D) {f g : FE} {k k' : Kd} {xs : List α} {ys : List β} (h : JE Γ (fFz f) (.val (.nd k (xs.map e))) Γ1) (h2 : JE Γ1 (fFz g) (.val (.nd k' (ys.map e'))) Γ2) (hk : ∀ ys, seqOf (.nd k ys) = some ys) (hk' : ∀ ys, seqOf (.nd k' ys) = some ys) : JI Γ (fiZip f g) ((xs.zip ys).map fun p => .nd .tup [e p.1, e' p.2]) Γ2 := fun ρ s => by
  obtain ⟨ρ1, e1, s1⟩ := h ρ s
  obtain ⟨ρ2, e2, s2⟩ := h2 ρ1 s1
  refine ⟨ρ2, ?_, s2⟩
  unfold fiZip
  have e0 : faCons (fFz f) (faCons (fFz g) faNil) ρ = .ok [.val (.nd k (xs.map e)), .val (.nd k' (ys.map e'))] ρ2 := by
    unfold faCons
    rw [e1, Out.bind_ok, e2]; rfl
  rw [e0, Out.bind_ok]
  unfold zipI
  dsimp only
  rw [hk, hk']
  dsimp only
  rw [zp_maps]
/-! ### comprehensions -/
def wipeE (Γ : Env) : List Nat → Env
  | [] => Γ
  | v :: vs => (wipeE Γ vs).set v (some .un)
theorem wipe_sat {ρ : Rho} (s : Sat Γ ρ) : ∀ own : List Nat, Sat (wipeE Γ own) (wipeR ρ own)
  | [] => s
  | v :: vs => (wipe_sat s vs).put (a := some .un) rfl v
def BackOk (own : List Nat) (Γ1 Γw Γ2 : Env) : Prop := ∀ ρ1 ρ, Sat Γ1 ρ1 → Sat Γw ρ → Sat Γ2 (backR ρ1 own ρ)
theorem back_nil {Γw : Env} : BackOk [] Γ1 Γw Γw := fun _ _ _ h => h
theorem sat_set_none : ∀ {Γ : Env} {ρ : Rho} {v : Nat}, Sat Γ ρ → nio Γ v = true → Sat (Γ.set v none) ρ
  | [], [], v, h, _ => trivial
  | [], _ :: _, v, h, _ => False.elim h
  | _ :: _, [], v, h, _ => False.elim h
  | a :: Γ, s :: ρ, 0, h, hn => by
    refine ⟨?_, h.2⟩
    have o := h.1
    cases a with
    | none => exact o
    | some t =>
      have o : s = t := o
      subst o
      cases s with
      | io d => cases hn
      | un => intro d z; cases z
      | dt x => intro d z; cases z
  | a :: Γ, s :: ρ, v + 1, h, hn => ⟨h.1, sat_set_none h.2 (by unfold nio at hn ⊢; simpa using hn)⟩
theorem back_any {v : Nat} {vs : List Nat} {Γw : Env} (h : BackOk vs Γ1 Γw Γ2) (hn : nio Γ2 v = true) : BackOk (v :: vs) Γ1 Γw (Γ2.set v none) := fun ρ1 ρ s1 s => by
  have h' := h ρ1 ρ s1 s
  rw [backR]
  split
  · split
    · exact h'.put (a := none) (fun d z => by cases z) v
    · exact sat_set_none h' hn
  · exact sat_set_none h' hn
theorem back_keep {v : Nat} {vs : List Nat} {Γw : Env} {d : D} (h : BackOk vs Γ1 Γw Γ2) (hd : Γ1[v]? = some (some (.dt d))) (hF : d.isF = true) : BackOk (v :: vs) Γ1 Γw (Γ2.set v (some (.dt d))) := fun ρ1 ρ s1 s => by
  have h' := h ρ1 ρ s1 s
  rw [backR, s1.at hd]
  dsimp only
  rw [if_pos hF]
  exact h'.put (a := some _) rfl v
theorem back_to {own : List Nat} {Γw : Env} (h : BackOk own Γ1 Γw Γ2) (e : Γ2 = Γ3) : BackOk own Γ1 Γw Γ3 := by rw [← e]; exact h
theorem lcL_ok {α β σ : Type} {e : α → D} {ey : β → D} {G : σ → Env} {tg : FG} {T : FT} {E : FE} {own : List Nat} {b : α → σ → Option β × σ} {S : α → σ → Prop}
    (hb : ∀ x s, S x s → ∀ ρ, Sat (G s) ρ → ∃ ρ1, tg (e x) ρ = .ok () ρ1 ∧ ((∃ ρ2 y ρ3, T ρ1 = .ok true ρ2 ∧ E ρ2 = .ok (.val (ey y)) ρ3 ∧ (b x s).1 = some y ∧ Sat (G (b x s).2) (wipeR ρ3 own)) ∨ (∃ ρ2, T ρ1 = .ok false ρ2 ∧ (b x s).1 = none ∧ Sat (G (b x s).2) (wipeR ρ2 own)))) :
    ∀ (xs : List α) (s : σ) (acc : List D) (ρ : Rho), lcSX S b xs s → Sat (G s) ρ → acc.length + xs.length ≤ sizeLine → ∃ ρ', lcL tg T E own (xs.map e) acc ρ = .ok (acc ++ (lcX b xs s).1.map ey) ρ' ∧ Sat (G (lcX b xs s).2) ρ'
  | [], s, acc, ρ, _, q, _ => ⟨ρ, by simp [lcL, lcX], q⟩
  | x :: xs, s, acc, ρ, ⟨h1, h2⟩, q, hl => by
    rw [List.length_cons] at hl
    obtain ⟨ρ1, e1, h⟩ := hb x s h1 ρ q
    rw [List.map_cons, lcL, e1]
    dsimp only
    rcases h with ⟨ρ2, y, ρ3, e2, e3, hy, q3⟩ | ⟨ρ2, e2, hy, q3⟩
    · obtain ⟨ρ', e4, q4⟩ := lcL_ok hb xs (b x s).2 (acc ++ [ey y]) _ h2 q3 (by simp; omega)
      have eX : lcX b (x :: xs) s = (y :: (lcX b xs (b x s).2).1, (lcX b xs (b x s).2).2) := by
        rw [lcX]
        cases hbx : b x s with
        | mk o s' => rw [hbx] at hy; cases hy; rfl
      refine ⟨ρ', ?_, by rw [eX]; exact q4⟩
      rw [e2]; dsimp only
      rw [e3]; dsimp only
      rw [if_pos (by omega), e4, eX]
      simp
    · obtain ⟨ρ', e4, q4⟩ := lcL_ok hb xs (b x s).2 acc _ h2 q3 (by omega)
      have eX : lcX b (x :: xs) s = lcX b xs (b x s).2 := by
        rw [lcX]
        cases hbx : b x s with
        | mk o s' => rw [hbx] at hy; cases hy; rfl
      refine ⟨ρ', ?_, by rw [eX]; exact q4⟩
      rw [e2]; dsimp only
      rw [e4, eX]
theorem lcX_map {α β : Type} (f : α → β) : ∀ xs : List α, (lcX (fun x (_ : Unit) => (some (f x), ())) xs ()).1 = xs.map f
  | [] => rfl
  | x :: xs => by rw [lcX]; simp only [lcX_map f xs, List.map_cons]
theorem lcX_filt {α β : Type} (c : α → Bool) (f : α → β) : ∀ xs : List α, (lcX (fun x (_ : Unit) => (if c x = true then some (f x) else none, ())) xs ()).1 = (xs.filter c).map f
  | [] => rfl
  | x :: xs => by
    rw [lcX]
    cases hc : c x with
    | true => simp only [if_true, lcX_filt c f xs, List.filter_cons_of_pos hc, List.map_cons]
    | false => simp only [Bool.false_eq_true, if_false, lcX_filt c f xs]; rw [List.filter_cons_of_neg (by rw [hc]; decide)]
theorem je_lcM {α β : Type} (e : α → D) (ey : β → D) {fi : FI} {tg : FG} {E : FE} {own : List Nat} {f : α → β} {S : α → Prop} {xs : List α} {Γw : Env} {Γx : α → Env}
    (hi : JI Γ fi (xs.map e) Γ1) (hw : wipeE Γ1 own = Γw) (hl : xs.length ≤ sizeLine) (hS : ∀ x ∈ xs, S x) (hg : ∀ x, JG Γw tg (e x) (Γx x)) (he : ∀ x, S x → JE (Γx x) E (.val (ey (f x))) (Γx x)) (hb : ∀ x, wipeE (Γx x) own = Γw) (hk : BackOk own Γ1 Γw Γ2) :
    JE Γ (fLC fi tg fYes E own) (.val (.nd (.lst true) ((xs.map f).map ey))) Γ2 := fun ρ q => by
  obtain ⟨ρ1, e1, q1⟩ := hi ρ q
  have key := lcL_ok (e := e) (ey := ey) (G := fun _ : Unit => Γw) (tg := tg) (T := fYes) (E := E) (own := own) (b := fun x _ => (some (f x), ())) (S := fun x _ => S x) (fun x _ hs ρ q => by
    obtain ⟨ρ2, e2, q2⟩ := hg x ρ q
    obtain ⟨ρ3, e3, q3⟩ := he x hs ρ2 q2
    exact ⟨ρ2, e2, .inl ⟨ρ2, f x, ρ3, rfl, e3, rfl, by rw [← hb x]; exact wipe_sat q3 own⟩⟩) xs () [] (wipeR ρ1 own) (by
      clear hl hi e1
      induction xs with
      | nil => trivial
      | cons x xs ih => exact ⟨hS x List.mem_cons_self, ih fun y hy => hS y (List.mem_cons_of_mem _ hy)⟩) (by rw [← hw]; exact wipe_sat q1 own) (by simpa using hl)
  obtain ⟨ρ2, e2, q2⟩ := key
  have eX := lcX_map f xs
  rw [eX, List.nil_append] at e2
  refine ⟨backR ρ1 own ρ2, ?_, hk ρ1 ρ2 q1 q2⟩
  unfold fLC
  rw [e1, Out.bind_ok, e2]; rfl
theorem je_lcP {α β : Type} (e : α → D) (ey : β → D) {fi : FI} {tg : FG} {T : FT} {E : FE} {own : List Nat} {c : α → Bool} {f : α → β} {S : α → Prop} {xs : List α} {Γw : Env} {Γx : α → Env}
    (hi : JI Γ fi (xs.map e) Γ1) (hw : wipeE Γ1 own = Γw) (hl : xs.length ≤ sizeLine) (hS : ∀ x ∈ xs, S x) (hg : ∀ x, JG Γw tg (e x) (Γx x)) (ht : ∀ x, S x → JT (Γx x) T (c x) (Γx x)) (he : ∀ x, S x → c x = true → JE (Γx x) E (.val (ey (f x))) (Γx x)) (hb : ∀ x, wipeE (Γx x) own = Γw) (hk : BackOk own Γ1 Γw Γ2) :
    JE Γ (fLC fi tg T E own) (.val (.nd (.lst true) (((xs.filter c).map f).map ey))) Γ2 := fun ρ q => by
  obtain ⟨ρ1, e1, q1⟩ := hi ρ q
  have key := lcL_ok (e := e) (ey := ey) (G := fun _ : Unit => Γw) (tg := tg) (T := T) (E := E) (own := own) (b := fun x _ => (if c x = true then some (f x) else none, ())) (S := fun x _ => S x) (fun x _ hs ρ q => by
    obtain ⟨ρ2, e2, q2⟩ := hg x ρ q
    obtain ⟨ρ3, e3, q3⟩ := ht x hs ρ2 q2
    cases hc : c x with
    | true =>
      obtain ⟨ρ4, e4, q4⟩ := he x hs hc ρ3 q3
      exact ⟨ρ2, e2, .inl ⟨ρ3, f x, ρ4, by rw [e3, hc], e4, rfl, by rw [← hb x]; exact wipe_sat q4 own⟩⟩
    | false => exact ⟨ρ2, e2, .inr ⟨ρ3, by rw [e3, hc], rfl, by rw [← hb x]; exact wipe_sat q3 own⟩⟩) xs () [] (wipeR ρ1 own) (by
      clear hl hi e1
      induction xs with
      | nil => trivial
      | cons x xs ih => exact ⟨hS x List.mem_cons_self, ih fun y hy => hS y (List.mem_cons_of_mem _ hy)⟩) (by rw [← hw]; exact wipe_sat q1 own) (by simpa using hl)
  obtain ⟨ρ2, e2, q2⟩ := key
  have eX := lcX_filt c f xs
  rw [eX, List.nil_append] at e2
  refine ⟨backR ρ1 own ρ2, ?_, hk ρ1 ρ2 q1 q2⟩
  unfold fLC
  rw [e1, Out.bind_ok, e2]; rfl
/-- .. that changes lent things: G s is the frame within, as it stands at s -/
theorem je_lcS {α β σ : Type} (e : α → D) (ey : β → D) (G : σ → Env) (Gb : σ → Env) {fi : FI} {tg : FG} {T : FT} {E : FE} {own : List Nat} {b : α → σ → Option β × σ} {S : α → σ → Prop} {xs : List α} {s0 : σ}
    (hi : JI Γ fi (xs.map e) Γ1) (hw : wipeE Γ1 own = G s0) (hl : xs.length ≤ sizeLine) (hS : lcSX S b xs s0)
    (hb : ∀ x s, S x s → ∃ (Γx Γt Γe : Env) (c : Bool) (y : β), JG (G s) tg (e x) Γx ∧ JT Γx T c Γt ∧ (c = true → JE Γt E (.val (ey y)) Γe) ∧ (c = true → (b x s).1 = some y ∧ wipeE Γe own = G (b x s).2) ∧ (c = false → (b x s).1 = none ∧ wipeE Γt own = G (b x s).2))
    (hk : ∀ s, BackOk own Γ1 (G s) (Gb s)) : JE Γ (fLC fi tg T E own) (.val (.nd (.lst true) ((lcX b xs s0).1.map ey))) (Gb (lcX b xs s0).2) := fun ρ q => by
  obtain ⟨ρ1, e1, q1⟩ := hi ρ q
  have key := lcL_ok (e := e) (ey := ey) (G := G) (tg := tg) (T := T) (E := E) (own := own) (b := b) (S := S) (fun x s hs ρ q => by
    obtain ⟨Γx, Γt, Γe, c, y, hg, ht, he, h1, h2⟩ := hb x s hs
    obtain ⟨ρ2, e2, q2⟩ := hg ρ q
    obtain ⟨ρ3, e3, q3⟩ := ht ρ2 q2
    cases c with
    | true =>
      obtain ⟨ρ4, e4, q4⟩ := he rfl ρ3 q3
      exact ⟨ρ2, e2, .inl ⟨ρ3, y, ρ4, e3, e4, (h1 rfl).1, by rw [← (h1 rfl).2]; exact wipe_sat q4 own⟩⟩
    | false => exact ⟨ρ2, e2, .inr ⟨ρ3, e3, (h2 rfl).1, by rw [← (h2 rfl).2]; exact wipe_sat q3 own⟩⟩) xs s0 [] (wipeR ρ1 own) hS (by rw [← hw]; exact wipe_sat q1 own) (by simpa using hl)
  obtain ⟨ρ2, e2, q2⟩ := key
  rw [List.nil_append] at e2
  refine ⟨backR ρ1 own ρ2, ?_, hk _ ρ1 ρ2 q1 q2⟩
  unfold fLC
  rw [e1, Out.bind_ok, e2]; rfl
/-! ### calls -/
inductive ArgsE (Γ : Env) : List Bool → List R → List D → Prop where
  | nil : ArgsE Γ [] [] []
  | v {ms : List Bool} {rs : List R} {d : D} {ds : List D} : d.isF = true → ArgsE Γ ms rs ds → ArgsE Γ (false :: ms) (.val d :: rs) (d :: ds)
  | b {ms : List Bool} {rs : List R} {i : Nat} {d : D} {ds : List D} : slE Γ i = some d → lends d = true → ArgsE Γ ms rs ds → ArgsE Γ (true :: ms) (.bor i :: rs) (d :: ds)
theorem ArgsE.ok {ρ : Rho} (s : Sat Γ ρ) {ms : List Bool} {rs : List R} {ds : List D} (h : ArgsE Γ ms rs ds) : argsOf ρ ms rs = some ds := by
  induction h with
  | nil => rfl
  | v hF _ ih => unfold argsOf; rw [if_pos hF, ih]
  | b hs hl _ ih => unfold argsOf; rw [slE_ok s hs]; dsimp only; rw [if_pos hl, ih]
def wbE (os : List D) : List (Nat × Nat) → Env → Env
  | [], Γ => Γ
  | (i, p) :: L, Γ => wbE os L (match Γ[i]? with
    | some (some s) => Γ.set i (some (wbS s (os.getD p .non)))
    | _ => Γ)
theorem wbE_ok {os : List D} : ∀ {L : List (Nat × Nat)} {Γ : Env} {ρ : Rho}, Sat Γ ρ → (∀ q ∈ L, ∃ s, Γ[q.1]? = some (some s)) → Sat (wbE os L Γ) (wb os L ρ)
  | [], Γ, ρ, s, _ => s
  | (i, p) :: L, Γ, ρ, s, h => by
    obtain ⟨t, ht⟩ := h (i, p) List.mem_cons_self
    have ht : Γ[i]? = some (some t) := ht
    rw [wbE, wb, ht, s.at ht]
    dsimp only
    refine wbE_ok (s.put (a := some _) rfl i) fun q hq => ?_
    obtain ⟨u, hu⟩ := h q (List.mem_cons_of_mem _ hq)
    by_cases e : q.1 = i
    · rw [e]; exact ⟨_, List.getElem?_set_self (List.getElem?_eq_some_iff.mp ht).1⟩
    · exact ⟨u, by rw [List.getElem?_set_ne (Ne.symm e)]; exact hu⟩
theorem ArgsE.known {ms : List Bool} {rs : List R} {ds : List D} (h : ArgsE Γ ms rs ds) : ∀ (p0 : Nat), ∀ q ∈ pairs ms rs p0, ∃ s, Γ[q.1]? = some (some s) := by
  induction h with
  | nil => intro p0 q hq; cases hq
  | v hF _ ih => intro p0 q hq; exact ih _ q hq
  | @b ms rs i d ds hs hl _ ih =>
    intro p0 q hq
    rcases List.mem_cons.mp hq with rfl | hq
    · unfold slE at hs
      split at hs
      · rename_i s e; exact ⟨s, e⟩
      · cases hs
    · exact ih _ q hq
theorem je_callU {ms : List Bool} {F : List D → CO} {fs : FA} {rs : List R} {ds os : List D} {res : D} (h : JA Γ fs rs Γ1) (ha : ArgsE Γ1 ms rs ds) (hF : F ds = .ok res os) (hn : ((pairs ms rs 0).map (·.1)).Nodup) : JE Γ (fCallU ms F fs) (.val res) (wbE os (pairs ms rs 0) Γ1) := fun ρ s => by
  obtain ⟨ρ1, e1, s1⟩ := h ρ s
  refine ⟨wb os (pairs ms rs 0) ρ1, ?_, wbE_ok s1 (ha.known 0)⟩
  unfold fCallU
  rw [e1, Out.bind_ok]
  unfold callU
  rw [if_pos hn, ha.ok s1]
  simp only [hF]
/-! ### lists that change -/
theorem chg_sat {α : Type} (e : α → D) (w : D → Sl) (hw : ∀ d, (w d).dat = some d) (hw2 : ∀ d d', wbS (w d) d' = w d') {i : Nat} {m : List D → Option (List D × D)} {xs ys : List α} {z : D} {ρ : Rho} (s : Sat Γ ρ) (h : Γ[i]? = some (some (w (.nd (.lst true) (xs.map e))))) (hm : m (xs.map e) = some (ys.map e, z)) :
    ∃ ρ', chg i m ρ = .ok (.val z) ρ' ∧ Sat (Γ.set i (some (w (.nd (.lst true) (ys.map e))))) ρ' := by
  refine ⟨ρ.set i (w (.nd (.lst true) (ys.map e))), ?_, s.put (a := some _) rfl i⟩
  unfold chg
  rw [s.at h]
  dsimp only
  rw [hw]
  dsimp only
  rw [hm]
  dsimp only
  rw [hw2]
theorem je_app {α : Type} (e : α → D) (w : D → Sl) (hw : ∀ d, (w d).dat = some d) (hw2 : ∀ d d', wbS (w d) d' = w d') {i : Nat} {f : FE} {xs : List α} {x : α} (h0 : Γ[i]? = some (some (w (.nd (.lst true) (xs.map e))))) (hf : JE Γ f (.val (e x)) Γ1) (h1 : Γ1[i]? = some (some (w (.nd (.lst true) (xs.map e))))) (hl : xs.length < sizeLine) :
    JE Γ (fApp i f) (.val .non) (Γ1.set i (some (w (.nd (.lst true) ((xs ++ [x]).map e))))) := fun ρ s => by
  obtain ⟨ρ1, e1, s1⟩ := hf ρ s
  obtain ⟨ρ2, e2, s2⟩ := chg_sat e w hw hw2 (ys := xs ++ [x]) (z := .non) (m := mApp (e x)) s1 h1 (by unfold mApp; rw [List.length_map, if_pos hl]; simp)
  refine ⟨ρ2, ?_, s2⟩
  unfold fApp
  rw [if_pos (isOwn_sat hw s h0), e1, Out.bind_ok]
  exact e2
theorem je_ext {α : Type} (e : α → D) (w : D → Sl) (hw : ∀ d, (w d).dat = some d) (hw2 : ∀ d d', wbS (w d) d' = w d') {i : Nat} {f : FE} {r : R} {d : D} {xs ys : List α} (h0 : Γ[i]? = some (some (w (.nd (.lst true) (xs.map e))))) (hf : JE Γ f r Γ1) (hr : rdE Γ1 r = some d) (hd : seqOf d = some (ys.map e)) (hF : D.isFL (ys.map e) = true)
    (h1 : Γ1[i]? = some (some (w (.nd (.lst true) (xs.map e))))) (hl : xs.length + ys.length ≤ sizeLine) : JE Γ (fExt i f) (.val .non) (Γ1.set i (some (w (.nd (.lst true) ((xs ++ ys).map e))))) := fun ρ s => by
  obtain ⟨ρ1, e1, s1⟩ := hf ρ s
  obtain ⟨ρ2, e2, s2⟩ := chg_sat e w hw hw2 (ys := xs ++ ys) (z := .non) (m := mExt (ys.map e)) s1 h1 (by unfold mExt; rw [List.length_map, List.length_map, if_pos ⟨hl, hF⟩]; simp)
  refine ⟨ρ2, ?_, s2⟩
  unfold fExt
  rw [if_pos (isOwn_sat hw s h0), e1, Out.bind_ok]
  unfold extB
  rw [rdE_ok s1 hr]
  dsimp only
  rw [hd]
  exact e2
theorem je_pop {α : Type} (e : α → D) (w : D → Sl) (hw : ∀ d, (w d).dat = some d) (hw2 : ∀ d d', wbS (w d) d' = w d') (d0 : α) {i : Nat} {xs : List α} (h0 : Γ[i]? = some (some (w (.nd (.lst true) (xs.map e))))) (hl : xs ≠ []) :
    JE Γ (fPop i) (.val (e (xs.getLastD d0))) (Γ.set i (some (w (.nd (.lst true) (xs.dropLast.map e))))) := fun ρ s => by
  obtain ⟨ρ2, e2, s2⟩ := chg_sat e w hw hw2 (ys := xs.dropLast) (z := e (xs.getLastD d0)) (m := mPop) s h0 (by
    unfold mPop
    rw [List.getLast?_map, List.getLastD_eq_getLast?, List.getLast?_eq_some_getLast hl]
    simp [List.map_dropLast])
  refine ⟨ρ2, ?_, s2⟩
  unfold fPop
  rw [if_pos (isOwn_sat hw s h0)]
  exact e2
theorem erase_map {α β : Type} (e : α → β) : ∀ (xs : List α) (n : Nat), (xs.map e).eraseIdx n = (xs.eraseIdx n).map e
  | [], _ => rfl
  | _ :: _, 0 => rfl
  | x :: xs, n + 1 => by simp only [List.map_cons, List.eraseIdx_cons_succ, erase_map e xs n]
theorem je_popAt {α : Type} (e : α → D) (w : D → Sl) (hw : ∀ d, (w d).dat = some d) (hw2 : ∀ d d', wbS (w d) d' = w d') (d0 : α) {i : Nat} {f : FE} {r : R} {k : Int} {xs : List α} (h0 : Γ[i]? = some (some (w (.nd (.lst true) (xs.map e))))) (hf : JE Γ f r Γ1) (hr : rdE Γ1 r = some (.int k)) (h1 : Γ1[i]? = some (some (w (.nd (.lst true) (xs.map e))))) (hI : inI xs k) (hl : xs.length ≤ sizeLine) :
    JE Γ (fPopAt i f) (.val (e (getI xs k d0))) (Γ1.set i (some (w (.nd (.lst true) ((xs.eraseIdx (ixI xs.length k)).map e))))) := fun ρ s => by
  obtain ⟨ρ1, e1, s1⟩ := hf ρ s
  obtain ⟨g1, g2⟩ := ixN_I hI
  obtain ⟨ρ2, e2, s2⟩ := chg_sat e w hw hw2 (ys := xs.eraseIdx (ixI xs.length k)) (z := e (getI xs k d0)) (m := mPopAt (ixI xs.length k)) s1 h1 (by
    unfold mPopAt getI
    rw [List.getElem?_map, List.getElem?_eq_getElem g2, List.getD_eq_getElem?_getD, List.getElem?_eq_getElem g2]
    simp only [Option.map_some, Option.getD_some, List.length_map, if_pos hl, erase_map])
  refine ⟨ρ2, ?_, s2⟩
  unfold fPopAt
  rw [if_pos (isOwn_sat hw s h0), e1, Out.bind_ok]
  unfold popB
  rw [rdE_ok s1 hr]
  dsimp only
  unfold slot
  rw [s1.at h1]
  dsimp only
  rw [hw]
  dsimp only
  rw [List.length_map, g1]
  exact e2
end
/-! ### defs -/
def lentE : List Bool → Env → Option (List D)
  | [], _ => some []
  | true :: ms, some (.io d) :: Γ => (match lentE ms Γ with | some ds => some (d :: ds) | none => none)
  | false :: ms, _ :: Γ => (match lentE ms Γ with | some ds => some (.non :: ds) | none => none)
  | _, _ => none
theorem lentE_ok : ∀ {ms : List Bool} {Γ : Env} {ρ : Rho} {os : List D}, Sat Γ ρ → lentE ms Γ = some os → lent ms ρ = some os
  | [], Γ, ρ, os, _, h => by cases h; unfold lent; rfl
  | true :: ms, some (.io d) :: Γ, [], os, s, h => False.elim s
  | true :: ms, some (.io d) :: Γ, t :: ρ, os, s, h => by
    have e : t = .io d := s.1
    subst e
    unfold lentE at h
    unfold lent
    cases e : lentE ms Γ with
    | none => rw [e] at h; cases h
    | some ds => rw [e] at h; cases h; rw [lentE_ok s.2 e]
  | false :: ms, a :: Γ, [], os, s, h => False.elim s
  | false :: ms, a :: Γ, t :: ρ, os, s, h => by
    unfold lentE at h
    unfold lent
    cases e : lentE ms Γ with
    | none => rw [e] at h; cases h
    | some ds => rw [e] at h; cases h; rw [lentE_ok s.2 e]
  | true :: ms, none :: Γ, ρ, os, s, h => by cases h
  | true :: ms, some .un :: Γ, ρ, os, s, h => by cases h
  | true :: ms, some (.dt _) :: Γ, ρ, os, s, h => by cases h
  | true :: ms, [], ρ, os, s, h => by cases h
  | false :: ms, [], ρ, os, s, h => by cases h
/-- a def's end: the value d, the lent things os -/
def Kf (ms : List Bool) (d : D) (os : List D) : Fl → Rho → Prop := fun fl ρ => (fl = .rt d ∨ (fl = .nx ∧ d = .non)) ∧ lent ms ρ = some os
theorem kf_rt {Γ : Env} {ms : List Bool} {d : D} {os : List D} (h : lentE ms Γ = some os) : ∀ ρ, Sat Γ ρ → Kf ms d os (.rt d) ρ := fun ρ s => ⟨.inl rfl, lentE_ok s h⟩
theorem kf_nx {Γ : Env} {ms : List Bool} {os : List D} (h : lentE ms Γ = some os) : ∀ ρ, Sat Γ ρ → Kf ms .non os .nx ρ := fun ρ s => ⟨.inr ⟨rfl, rfl⟩, lentE_ok s h⟩
theorem fn_of {ms : List Bool} {n : Nat} {B : FS} {ds : List D} {d : D} {os : List D} (h : JS ((rho0 ms ds n).map some) B (Kf ms d os)) : runF ms n B ds = .ok d os := by
  obtain ⟨fl, ρ', e, hf, hl⟩ := h _ (sat_self _)
  unfold runF
  rw [e]
  rcases hf with rfl | ⟨rfl, rfl⟩ <;> simp only [hl]
end EE

/-! layer T, part C: codecs, operations on what is typed -/
namespace EE
open PySem PySem.Spec
open PyProof.Rows hiding St
open L2
open PySem.W (dataLe dataLt AllAlike Sortable alike alikeAll)
/-- how values of a type lie there as data -/
structure Cd (α : Type) where
  e : α → D
  k : Nat
  F : ∀ a, (e a).isF = true
  ok : ∀ a, D.ok k (e a) = true
  inj : ∀ a b, D.eqb (e a) (e b) = true ↔ a = b
theorem Cd.eqb {α : Type} [DecidableEq α] (c : Cd α) (a b : α) : D.eqb (c.e a) (c.e b) = decide (a = b) := by
  by_cases h : a = b
  · rw [decide_eq_true h]; exact (c.inj a b).mpr h
  · rw [decide_eq_false h]
    cases e : D.eqb (c.e a) (c.e b) with
    | false => rfl
    | true => exact absurd ((c.inj a b).mp e) h
theorem Cd.FL {α : Type} (c : Cd α) (xs : List α) : D.isFL (xs.map c.e) = true := D.isFL_iff.mpr fun x hx => by
  obtain ⟨a, _, rfl⟩ := List.mem_map.mp hx
  exact c.F a
theorem Cd.okL {α : Type} (c : Cd α) {n : Nat} (h : c.k ≤ n) (xs : List α) : (xs.map c.e).all (D.ok n) = true := List.all_eq_true.mpr fun x hx => by
  obtain ⟨a, _, rfl⟩ := List.mem_map.mp hx
  exact D.ok_mono (c.ok a) h
theorem Cd.eqL {α : Type} (c : Cd α) : ∀ xs ys : List α, D.eqbL (xs.map c.e) (ys.map c.e) = true ↔ xs = ys
  | [], [] => by simp [D.eqbL]
  | [], y :: ys => by simp [D.eqbL]
  | x :: xs, [] => by simp [D.eqbL]
  | x :: xs, y :: ys => by
    simp only [List.map_cons, D.eqbL, Bool.and_eq_true, Cd.eqL c xs ys, c.inj, List.cons.injEq]
theorem Cd.frz {α : Type} (c : Cd α) (a : α) : (c.e a).frz = c.e a := by
  have key : (∀ d : D, d.isF = true → d.frz = d) := by
    intro d
    induction d using D.rec (motive_2 := fun xs => D.isFL xs = true → D.frzL xs = xs) with
    | non => intro _; rfl
    | bl b => intro _; rfl
    | int i => intro _; rfl
    | str x => intro _; rfl
    | nd k xs ih =>
      intro h
      have h : (k.isF && D.isFL xs) = true := h
      rw [Bool.and_eq_true] at h
      show D.nd k.frz (D.frzL xs) = _
      rw [ih h.2]
      cases k with
      | tup => rfl
      | lst o => cases o with
        | false => rfl
        | true => exact absurd h.1 (by decide)
      | dic o ks => cases o with
        | false => rfl
        | true => exact absurd h.1 (by show ¬ (!true) = true; decide)
    | nil => rfl
    | cons x xs h1 h2 =>
      rename_i h
      have h : (D.isF x && D.isFL xs) = true := h
      rw [Bool.and_eq_true] at h
      show D.frz x :: D.frzL xs = _
      rw [h1 h.1, h2 h.2]
  exact key _ (c.F a)
theorem Cd.frzL {α : Type} (c : Cd α) (xs : List α) : D.frzL (xs.map c.e) = xs.map c.e := by
  rw [D.frzL_map, List.map_map]
  exact List.map_congr_left fun a _ => c.frz a
def cI : Cd Int := ⟨.int, 0, fun _ => rfl, fun _ => rfl, fun a b => by simp [D.eqb]⟩
def cB : Cd Bool := ⟨.bl, 0, fun _ => rfl, fun _ => rfl, fun a b => by simp [D.eqb]⟩
def cN : Cd Unit := ⟨fun _ => .non, 0, fun _ => rfl, fun _ => rfl, fun a b => by simp [D.eqb]⟩
/-- texts -/
abbrev Tx := {x : Str // PyData.strOk x = true}
def cS : Cd Tx := ⟨fun x => .str x.1, 0, fun _ => rfl, fun x => x.2, fun a b => by simp [D.eqb, Subtype.ext_iff]⟩
def eO {α : Type} (e : α → D) : Option α → D
  | none => .non
  | some a => e a
def cO {α : Type} (c : Cd α) (hn : ∀ a, (c.e a).isN = false) : Cd (Option α) := ⟨eO c.e, c.k, fun a => by
    cases a with
    | none => rfl
    | some a => exact c.F a, fun a => by
    cases a with
    | none => show D.ok c.k .non = true; cases c.k <;> rfl
    | some a => exact c.ok a, fun a b => by
    have h1 : ∀ a, D.eqb .non (c.e a) = false := fun a => by
      have := hn a
      cases e : c.e a <;> first | rfl | (rw [e] at this; cases this)
    have h2 : ∀ a, D.eqb (c.e a) .non = false := fun a => by
      have := hn a
      cases e : c.e a with
      | non => rw [e] at this; cases this
      | _ => rfl
    cases a <;> cases b <;> simp [eO, h1, h2, c.inj, D.eqb]⟩
def cT {α : Type} (c : Cd α) : Cd (List α) := ⟨fun xs => .nd .tup (xs.map c.e), c.k + 1, fun xs => by show (true && D.isFL _) = true; rw [c.FL]; rfl, fun xs => by show (true && (xs.map c.e).all (D.ok c.k)) = true; rw [c.okL (Nat.le_refl _)]; rfl,
  fun a b => by show (true && D.eqbL _ _) = true ↔ _; rw [Bool.true_and]; exact c.eqL a b⟩
def cL {α : Type} (c : Cd α) : Cd (List α) := ⟨fun xs => .nd (.lst false) (xs.map c.e), c.k + 1, fun xs => by show (true && D.isFL _) = true; rw [c.FL]; rfl, fun xs => by show (true && (xs.map c.e).all (D.ok c.k)) = true; rw [c.okL (Nat.le_refl _)]; rfl,
  fun a b => by show (true && D.eqbL _ _) = true ↔ _; rw [Bool.true_and]; exact c.eqL a b⟩
/-- an owned list -/
abbrev oL {α : Type} (e : α → D) (xs : List α) : D := .nd (.lst true) (xs.map e)
/-- rows of unlike things -/
structure Cr (α : Type) where
  e : α → List D
  k : Nat
  F : ∀ a, D.isFL (e a) = true
  ok : ∀ a, (e a).all (D.ok k) = true
  inj : ∀ a b, D.eqbL (e a) (e b) = true ↔ a = b
def cP {α : Type} (c : Cr α) : Cd α := ⟨fun a => .nd .tup (c.e a), c.k + 1, fun a => by show (true && D.isFL _) = true; rw [c.F]; rfl, fun a => by show (true && (c.e a).all (D.ok c.k)) = true; rw [c.ok]; rfl,
  fun a b => by show (true && D.eqbL _ _) = true ↔ _; rw [Bool.true_and]; exact c.inj a b⟩
def r1 {α : Type} (c : Cd α) : Cr α := ⟨fun a => [c.e a], c.k, fun a => by simp [D.isFL, c.F], fun a => by simp [c.ok], fun a b => by simp [D.eqbL, c.inj]⟩
def rC {α β : Type} (c : Cd α) (d : Cr β) : Cr (α × β) := ⟨fun a => c.e a.1 :: d.e a.2, max c.k d.k, fun a => by simp [D.isFL, c.F, d.F], fun a => by
    rw [List.all_cons, D.ok_mono (c.ok a.1) (Nat.le_max_left _ _), Bool.true_and]
    exact List.all_eq_true.mpr fun x hx => D.ok_mono (List.all_eq_true.mp (d.ok a.2) x hx) (Nat.le_max_right _ _), fun a b => by
    obtain ⟨a1, a2⟩ := a
    obtain ⟨b1, b2⟩ := b
    simp [D.eqbL, c.inj, d.inj]⟩
abbrev c2 {α β : Type} (c : Cd α) (d : Cd β) : Cd (α × β) := cP (rC c (r1 d))
abbrev c3 {α β γ : Type} (c : Cd α) (d : Cd β) (f : Cd γ) : Cd (α × β × γ) := cP (rC c (rC d (r1 f)))
abbrev c4 {α β γ δ : Type} (c : Cd α) (d : Cd β) (f : Cd γ) (g : Cd δ) : Cd (α × β × γ × δ) := cP (rC c (rC d (rC f (r1 g))))
abbrev c5 {α β γ δ ε : Type} (c : Cd α) (d : Cd β) (f : Cd γ) (g : Cd δ) (h : Cd ε) : Cd (α × β × γ × δ × ε) := cP (rC c (rC d (rC f (rC g (r1 h)))))

/-! ### operations -/
section
theorem o_addI (a b : Int) : sAdd (.int a) (.int b) = some (.int (a + b)) := rfl
theorem o_addT {α : Type} (c : Cd α) {xs ys : List α} (h : xs.length + ys.length ≤ sizeLine) : sAdd ((cT c).e xs) ((cT c).e ys) = some ((cT c).e (xs ++ ys)) := by
  show (if _ then _ else _) = _
  rw [if_pos ⟨by rw [List.length_map, List.length_map]; exact h, c.FL xs, c.FL ys⟩, ← List.map_append]; rfl
theorem o_addL {α : Type} (c : Cd α) {o o' : Bool} {xs ys : List α} (h : xs.length + ys.length ≤ sizeLine) : sAdd (.nd (.lst o) (xs.map c.e)) (.nd (.lst o') (ys.map c.e)) = some (oL c.e (xs ++ ys)) := by
  show (if _ then _ else _) = _
  rw [if_pos ⟨by rw [List.length_map, List.length_map]; exact h, c.FL xs, c.FL ys⟩, ← List.map_append]
theorem o_sub (a b : Int) : sSub (.int a) (.int b) = some (.int (a - b)) := rfl
theorem o_mul {a b : Int} (h : CMul a b) : sMul (.int a) (.int b) = some (.int (a * b)) := by show (if _ then _ else _) = _; rw [if_pos h]
theorem o_mod {a b : Int} (h : 0 < b) : sMod (.int a) (.int b) = some (.int (a % b)) := by show (if _ then _ else _) = _; rw [if_pos h]
theorem o_div {a b : Int} (h : CDiv a b) : sDiv (.int a) (.int b) = some (.int (a / b)) := by show (if _ then _ else _) = _; rw [if_pos h]
theorem o_pow {a b : Int} (h : CPow a b) : sPow (.int a) (.int b) = some (.int (a ^ b.toNat)) := by show (if _ then _ else _) = _; rw [if_pos h]
theorem o_shl {a b : Int} (h : CPow a b) : sShl (.int a) (.int b) = some (.int (a * 2 ^ b.toNat)) := by show (if _ then _ else _) = _; rw [if_pos h]
theorem o_shr {a b : Int} (h : 0 ≤ b) : sShr (.int a) (.int b) = some (.int (a / 2 ^ b.toNat)) := by show (if _ then _ else _) = _; rw [if_pos h]
theorem o_and (a b : Int) : sAnd (.int a) (.int b) = some (.int (Builtin.bitAnd a b)) := rfl
theorem o_or (a b : Int) : sOr (.int a) (.int b) = some (.int (Builtin.bitOr a b)) := rfl
theorem o_neg (a : Int) : sNeg (.int a) = some (.int (-a)) := rfl
theorem o_lt (a b : Int) : sLt (.int a) (.int b) = some (.bl (decide (a < b))) := rfl
theorem o_le (a b : Int) : sLe (.int a) (.int b) = some (.bl (decide (a ≤ b))) := rfl
theorem o_gt (a b : Int) : sGt (.int a) (.int b) = some (.bl (decide (b < a))) := rfl
theorem o_ge (a b : Int) : sGe (.int a) (.int b) = some (.bl (decide (b ≤ a))) := rfl
theorem o_ipA (a b : Int) : sIpA (.int a) (.int b) = some (.int (a + b)) := rfl
theorem o_ipS (a b : Int) : sIpS (.int a) (.int b) = some (.int (a - b)) := rfl
theorem o_eq {α : Type} [DecidableEq α] (c : Cd α) (hk : c.k ≤ 64) (a b : α) : sEq (c.e a) (c.e b) = some (.bl (decide (a = b))) := by
  unfold sEq
  rw [if_pos ⟨D.ok_mono (c.ok a) hk, D.ok_mono (c.ok b) hk⟩, c.eqb]
theorem o_ne {α : Type} [DecidableEq α] (c : Cd α) (hk : c.k ≤ 64) (a b : α) : sNe (c.e a) (c.e b) = some (.bl (!decide (a = b))) := by
  unfold sNe
  rw [if_pos ⟨D.ok_mono (c.ok a) hk, D.ok_mono (c.ok b) hk⟩, c.eqb]
theorem eqbLst {α : Type} [DecidableEq α] (c : Cd α) (o o' : Bool) (xs ys : List α) : D.eqb (.nd (.lst o) (xs.map c.e)) (.nd (.lst o') (ys.map c.e)) = decide (xs = ys) := by
  show (true && D.eqbL _ _) = _
  rw [Bool.true_and]
  by_cases h : xs = ys
  · rw [decide_eq_true h]; exact (c.eqL xs ys).mpr h
  · rw [decide_eq_false h]
    cases e : D.eqbL (xs.map c.e) (ys.map c.e) with
    | false => rfl
    | true => exact absurd ((c.eqL xs ys).mp e) h
theorem okLst {α : Type} (c : Cd α) (hk : c.k ≤ 63) (o : Bool) (xs : List α) : D.ok 64 (.nd (.lst o) (xs.map c.e)) = true := by
  show (true && (xs.map c.e).all (D.ok 63)) = true
  rw [c.okL hk]; rfl
theorem o_eqL {α : Type} [DecidableEq α] (c : Cd α) (hk : c.k ≤ 63) {o o' : Bool} (xs ys : List α) : sEq (.nd (.lst o) (xs.map c.e)) (.nd (.lst o') (ys.map c.e)) = some (.bl (decide (xs = ys))) := by
  unfold sEq
  rw [if_pos ⟨okLst c hk o xs, okLst c hk o' ys⟩, eqbLst]
theorem o_neL {α : Type} [DecidableEq α] (c : Cd α) (hk : c.k ≤ 63) {o o' : Bool} (xs ys : List α) : sNe (.nd (.lst o) (xs.map c.e)) (.nd (.lst o') (ys.map c.e)) = some (.bl (!decide (xs = ys))) := by
  unfold sNe
  rw [if_pos ⟨okLst c hk o xs, okLst c hk o' ys⟩, eqbLst]
/-- x in xs -/
def memB {α : Type} [DecidableEq α] (x : α) (xs : List α) : Bool := decide (x ∈ xs)
@[simp] theorem memB_iff {α : Type} [DecidableEq α] {x : α} {xs : List α} : memB x xs = true ↔ x ∈ xs := by unfold memB; exact decide_eq_true_iff
theorem memB_false {α : Type} [DecidableEq α] {x : α} {xs : List α} : memB x xs = false ↔ ¬ x ∈ xs := by unfold memB; exact decide_eq_false_iff_not
theorem any_mem {α : Type} [DecidableEq α] (c : Cd α) (xs : List α) (x : α) : ((xs.map c.e).any fun z => D.eqb z (c.e x)) = decide (x ∈ xs) := by
  rw [List.any_map]
  induction xs with
  | nil => simp
  | cons y xs ih =>
    rw [List.any_cons, ih, Function.comp, c.eqb]
    by_cases h : y = x
    · subst h; simp
    · have h' : ¬ x = y := fun z => h z.symm
      simp [h, h']
theorem o_in {α : Type} [DecidableEq α] (c : Cd α) (hk : c.k ≤ 64) {d : D} {xs : List α} (hd : seqOf d = some (xs.map c.e)) (x : α) : sIn false (c.e x) d = some (.bl (memB x xs)) := by
  unfold sIn
  rw [hd]
  dsimp only
  rw [if_pos ⟨D.ok_mono (c.ok x) hk, c.okL hk xs⟩, any_mem]; rfl
theorem o_nin {α : Type} [DecidableEq α] (c : Cd α) (hk : c.k ≤ 64) {d : D} {xs : List α} (hd : seqOf d = some (xs.map c.e)) (x : α) : sIn true (c.e x) d = some (.bl (!memB x xs)) := by
  unfold sIn
  rw [hd]
  dsimp only
  rw [if_pos ⟨D.ok_mono (c.ok x) hk, c.okL hk xs⟩, any_mem]; rfl
theorem isN_opt {α : Type} (c : Cd α) (hn : ∀ a, (c.e a).isN = false) (x : Option α) : (eO c.e x).isN = x.isNone := by
  cases x with
  | none => rfl
  | some a => exact hn a
theorem o_isN {α : Type} (c : Cd α) (hn : ∀ a, (c.e a).isN = false) (x : Option α) : sIsN false ((cO c hn).e x) = some (.bl x.isNone) := by
  show some (D.bl (eO c.e x).isN) = _; rw [isN_opt c hn]
theorem o_notN {α : Type} (c : Cd α) (hn : ∀ a, (c.e a).isN = false) (x : Option α) : sIsN true ((cO c hn).e x) = some (.bl x.isSome) := by
  show some (D.bl (!(eO c.e x).isN)) = _; rw [isN_opt c hn]; cases x <;> rfl
/-- what isn't None -/
theorem eO_get {α : Type} (e : α → D) {x : Option α} (d : α) (h : x.isNone = false) : eO e x = e (x.getD d) := by
  cases x with
  | none => cases h
  | some a => rfl
theorem eO_none {α : Type} (e : α → D) {x : Option α} (h : x.isNone = true) : eO e x = .non := by
  cases x with
  | none => rfl
  | some a => cases h
theorem o_ix {α : Type} (c : Cd α) {d : D} {xs : List α} (hd : seqOf d = some (xs.map c.e)) {i : Int} (d0 : α) (h : inI xs i) : sIx d (.int i) = some (c.e (getI xs i d0)) := by
  unfold sIx
  rw [hd]
  dsimp only
  obtain ⟨g1, g2⟩ := ixN_I h
  unfold atI
  rw [List.length_map, g1, Option.bind_some, List.getElem?_map, List.getElem?_eq_getElem g2]
  unfold getI
  rw [List.getD_eq_getElem?_getD, List.getElem?_eq_getElem g2]
  dsimp only [Option.map_some, Option.getD_some]
  rw [if_pos (c.F _)]
/-- a written place -/
theorem o_ixN {α : Type} (c : Cd α) {d : D} {xs : List α} (hd : seqOf d = some (xs.map c.e)) {n : Nat} (d0 : α) (h : n < xs.length) : sIx d (.int n) = some (c.e (xs.getD n d0)) := by
  have := o_ix c hd (i := n) d0 ⟨by omega, by omega⟩
  rw [this]
  unfold getI ixI
  rw [if_pos (by omega)]; rfl
theorem o_ixL {α : Type} (c : Cd α) {d : D} {xs : List α} (hd : seqOf d = some (xs.map c.e)) (d0 : α) (h : xs ≠ []) : sIx d (.int (-1)) = some (c.e (xs.getLastD d0)) := by
  have hl : 0 < xs.length := List.length_pos_iff.mpr h
  have := o_ix c hd (i := -1) d0 ⟨by omega, by omega⟩
  rw [this]
  unfold getI ixI
  rw [if_neg (by omega), List.getLastD_eq_getLast?, List.getLast?_eq_getElem?, List.getD_eq_getElem?_getD]
  have e : (-1 + (xs.length : Int)).toNat = xs.length - 1 := by omega
  rw [e]
theorem o_ixP {ds : List D} {j : Int} {d : D} (h : atI ds j = some d) (hF : d.isF = true) : sIx (.nd .tup ds) (.int j) = some d := by
  unfold sIx
  rw [seqOf_tup]
  dsimp only
  rw [h]
  dsimp only
  rw [if_pos hF]
theorem o_len {α : Type} (e : α → D) {d : D} {xs : List α} (hd : seqOf d = some (xs.map e)) : sLen [d] = some (.int xs.length) := by
  unfold sLen
  dsimp only
  rw [hd]
  dsimp only
  rw [List.length_map]
def absI (i : Int) : Int := if i < 0 then -i else i
def max2 (i j : Int) : Int := if j > i then j else i
def min2 (i j : Int) : Int := if j < i then j else i
theorem o_abs (i : Int) : sAbs [.int i] = some (.int (absI i)) := rfl
theorem o_max2 (i j : Int) : sMax2 [.int i, .int j] = some (.int (max2 i j)) := rfl
theorem o_min2 (i j : Int) : sMin2 [.int i, .int j] = some (.int (min2 i j)) := rfl
theorem o_int (i : Int) : sInt [.int i] = some (.int i) := rfl
theorem o_tuple {α : Type} (c : Cd α) {d : D} {xs : List α} (hd : seqOf d = some (xs.map c.e)) : sTuple [d] = some ((cT c).e xs) := by
  unfold sTuple
  dsimp only
  rw [hd]
  dsimp only
  rw [if_pos (c.FL xs)]; rfl
theorem o_list {α : Type} (c : Cd α) {d : D} {xs : List α} (hd : seqOf d = some (xs.map c.e)) : sList [d] = some (oL c.e xs) := by
  unfold sList
  dsimp only
  rw [hd]
  dsimp only
  rw [if_pos (c.FL xs)]
theorem o_lz {α β : Type} (c : Cd α) (c' : Cd β) {d d' : D} {xs : List α} {ys : List β} (hd : seqOf d = some (xs.map c.e)) (hd' : seqOf d' = some (ys.map c'.e)) : sLZ [d, d'] = some (oL (c2 c c').e (xs.zip ys)) := by
  unfold sLZ
  simp only [hd, hd']
  rw [if_pos ⟨c.FL xs, c'.FL ys⟩, zp_maps]; rfl
theorem o_all {o : Bool} (bs : List Bool) : sAll [.nd (.lst o) (bs.map D.bl)] = some (.bl (bs.all id)) := by
  unfold sAll
  dsimp only [lstOf]
  rw [blsOf_map]
theorem o_any {o : Bool} (bs : List Bool) : sAny [.nd (.lst o) (bs.map D.bl)] = some (.bl (bs.any id)) := by
  unfold sAny
  dsimp only [lstOf]
  rw [blsOf_map]
theorem o_rgT {n : Int} (h : RgS 0 n) : sRgT1 (.int n) = some ((cT cI).e (rg n)) := by
  show (if _ then _ else _) = _
  rw [if_pos h, upTo_rgF, Int.sub_zero]; rfl
theorem o_rgL {n : Int} (h : RgS 0 n) : sRgL1 (.int n) = some (oL cI.e (rg n)) := by
  show (if _ then _ else _) = _
  rw [if_pos h, upTo_rgF, Int.sub_zero]; rfl
/-- slices -/
def cutF {α : Type} (xs : List α) (lo hi : Option Int) : List α := (xs.drop (HT.sIx xs.length 0 lo)).take (HT.sIx xs.length xs.length hi - HT.sIx xs.length 0 lo)
theorem cutF_map {α : Type} (e : α → D) (xs : List α) (lo hi : Option Int) : cutD (xs.map e) lo hi = (cutF xs lo hi).map e := by
  unfold cutD cutF
  rw [List.length_map, List.map_take, List.map_drop]
theorem je_cutT {Γ Γ1 Γ2 Γ3 : Env} {α : Type} (c : Cd α) {f : FE} {lo hi : FO} {r : R} {l u : Option Int} {xs : List α} (h : JE Γ f r Γ1) (hl : JO Γ1 lo l Γ2) (hu : JO Γ2 hi u Γ3) (hx : rdE Γ3 r = some ((cT c).e xs)) : JE Γ (fSl f lo hi) (.val ((cT c).e (cutF xs l u))) Γ3 := by
  have := je_slT h hl hu hx (c.FL xs)
  rw [cutF_map] at this
  exact this
theorem je_cutL {Γ Γ1 Γ2 Γ3 : Env} {α : Type} (c : Cd α) {f : FE} {lo hi : FO} {r : R} {l u : Option Int} {o : Bool} {xs : List α} (h : JE Γ f r Γ1) (hl : JO Γ1 lo l Γ2) (hu : JO Γ2 hi u Γ3) (hx : rdE Γ3 r = some (.nd (.lst o) (xs.map c.e))) : JE Γ (fSl f lo hi) (.val (oL c.e (cutF xs l u))) Γ3 := by
  have := je_slL h hl hu hx (c.FL xs)
  rw [cutF_map] at this
  exact this
/-! ### order -/
def leC {α : Type} (c : Cd α) (a b : α) : Bool := dLe (c.e a) (c.e b)
def srt {α : Type} (c : Cd α) (xs : List α) : List α := xs.mergeSort (leC c)
theorem srt_map {α : Type} (c : Cd α) (xs : List α) : (xs.map c.e).mergeSort dLe = (srt c xs).map c.e := by
  unfold srt
  rw [List.map_mergeSort]
  intro a _ b _; rfl
/-- what can be sorted -/
structure So {α : Type} (c : Cd α) : Prop where
  al : ∀ a b, alike (toPy (c.e a)) (toPy (c.e b)) = true
  sh : (∀ a, toPy (c.e a) ≠ .none ∧ ∀ xs, toPy (c.e a) ≠ .tuple xs) ∨ ∀ a, ∃ xs, c.e a = .nd .tup xs
theorem so_I : So cI := ⟨fun _ _ => rfl, .inl fun a => ⟨(fun h => nomatch h), fun xs h => nomatch h⟩⟩
theorem so_B : So cB := ⟨fun _ _ => rfl, .inl fun a => ⟨(fun h => nomatch h), fun xs h => nomatch h⟩⟩
theorem so_S : So cS := ⟨fun _ _ => rfl, .inl fun a => ⟨(fun h => nomatch h), fun xs h => nomatch h⟩⟩
theorem alikeL {α : Type} {c : Cd α} (h : ∀ a b, alike (toPy (c.e a)) (toPy (c.e b)) = true) : ∀ xs ys : List α, alikeAll (toPyL (xs.map c.e)) (toPyL (ys.map c.e)) = true
  | [], ys => by cases ys <;> rfl
  | x :: xs, [] => rfl
  | x :: xs, y :: ys => by
    show (alike _ _ && alikeAll _ _) = true
    rw [h x y, alikeL h xs ys]; rfl
theorem so_T {α : Type} {c : Cd α} (h : So c) : So (cT c) := ⟨fun a b => by show alike (.tuple _) (.tuple _) = true; unfold alike; exact alikeL h.al a b, .inr fun a => ⟨_, rfl⟩⟩
structure Sr {α : Type} (c : Cr α) : Prop where
  al : ∀ a b, alikeAll (toPyL (c.e a)) (toPyL (c.e b)) = true
theorem sr_1 {α : Type} {c : Cd α} (h : So c) : Sr (r1 c) := ⟨fun a b => by show (alike _ _ && alikeAll [] []) = true; rw [h.al]; rfl⟩
theorem sr_C {α β : Type} {c : Cd α} {d : Cr β} (h : So c) (h' : Sr d) : Sr (rC c d) := ⟨fun a b => by show (alike _ _ && alikeAll _ _) = true; rw [h.al, h'.al]; rfl⟩
theorem so_P {α : Type} {c : Cr α} (h : Sr c) : So (cP c) := ⟨fun a b => by show alike (.tuple _) (.tuple _) = true; unfold alike; exact h.al a b, .inr fun a => ⟨_, rfl⟩⟩
theorem srtT_of {α : Type} {c : Cd α} (so : So c) (hk : c.k ≤ 60) {xs : List α} (hl : xs.length ≤ sizeLine) : SrtT (xs.map c.e) := by
  refine ⟨fun d hd d' hd' => ?_, ?_, fun x hx => ?_, by rw [List.length_map]; exact hl, c.FL xs⟩
  · obtain ⟨x, hx, rfl⟩ := List.mem_map.mp hd
    obtain ⟨y, hy, rfl⟩ := List.mem_map.mp hd'
    obtain ⟨a, _, rfl⟩ := List.mem_map.mp hx
    obtain ⟨b, _, rfl⟩ := List.mem_map.mp hy
    exact so.al a b
  · rcases so.sh with h | h
    · refine .inl (.inr fun d hd => ?_)
      obtain ⟨x, hx, rfl⟩ := List.mem_map.mp hd
      obtain ⟨a, _, rfl⟩ := List.mem_map.mp hx
      exact h a
    · refine .inr (List.all_eq_true.mpr fun x hx => ?_)
      obtain ⟨a, _, rfl⟩ := List.mem_map.mp hx
      obtain ⟨ys, e⟩ := h a
      rw [e]
  · obtain ⟨a, _, rfl⟩ := List.mem_map.mp hx
    exact D.ok_mono (c.ok a) hk
theorem o_srt {α : Type} {c : Cd α} (so : So c) (hk : c.k ≤ 60) {o : Bool} {xs : List α} (hl : xs.length ≤ sizeLine) : sSortT [.nd (.lst o) (xs.map c.e)] = some (oL c.e (srt c xs)) := by
  unfold sSortT
  dsimp only [lstOf]
  rw [if_pos (srtT_of so hk hl), srt_map]
end
end EE

/-! layer T, part D: what the printer's proofs lean on -/
namespace EE
open PySem PySem.Spec
open PyProof.Rows hiding St
open L2
theorem kle {a b : Nat} (h : Nat.ble a b = true) : a ≤ b := Nat.le_of_ble_eq_true h
def nodupB : List Nat → Bool
  | [] => true
  | x :: xs => !(xs.contains x) && nodupB xs
theorem nd_of {l : List Nat} (h : nodupB l = true) : l.Nodup := by
  induction l with
  | nil => exact List.nodup_nil
  | cons x xs ih =>
    unfold nodupB at h
    rw [Bool.and_eq_true] at h
    refine List.nodup_cons.mpr ⟨fun m => ?_, ih h.2⟩
    have := h.1
    simp [m] at this
theorem le_dt {d : D} : leS (some (.dt d)) none := fun _ h => nomatch h
theorem le_un : leS (some .un) none := fun _ h => nomatch h
theorem sl_le {n : Nat} (h : Nat.ble n 16777216 = true) : n ≤ sizeLine := Nat.le_of_ble_eq_true h
theorem frz_oL {α : Type} (c : Cd α) (xs : List α) : (oL c.e xs).frz = (cL c).e xs := by
  show D.nd (.lst false) (D.frzL (xs.map c.e)) = _
  rw [c.frzL]; rfl
theorem frz_oL2 {α : Type} (c : Cd α) (xs : List (List α)) : (oL (oL c.e) xs).frz = (cL (cL c)).e xs := by
  show D.nd (.lst false) (D.frzL (xs.map (oL c.e))) = D.nd (.lst false) (xs.map (cL c).e)
  rw [D.frzL_map, List.map_map]
  congr 1
  exact List.map_congr_left fun a _ => frz_oL c a
theorem rd_opt {Γ : Env} {r : R} {α : Type} {e : α → D} {x : Option α} (d : α) (h : rdE Γ r = some (eO e x)) (hx : x.isNone = false) : rdE Γ r = some (e (x.getD d)) := by rw [h, eO_get e d hx]
theorem je_opt {Γ Γ1 : Env} {f : FE} {α : Type} {e : α → D} {x : Option α} (d : α) (h : JE Γ f (.val (eO e x)) Γ1) (hx : x.isNone = false) : JE Γ f (.val (e (x.getD d))) Γ1 := by rw [← eO_get e d hx]; exact h
theorem forS_T {α σ M : Type} {b : α → σ → Fo σ M} : ∀ {xs : List α} {s : σ}, forS (fun _ _ => True) b xs s
  | [], s => trivial
  | x :: xs, s => ⟨trivial, by cases b x s <;> first | exact forS_T | trivial⟩
theorem forSF_T {α σ : Type} {b : α → σ → σ} : ∀ {xs : List α} {s : σ}, forSF (fun _ _ => True) b xs s
  | [], s => trivial
  | x :: xs, s => ⟨trivial, forSF_T⟩
theorem lcSX_T {α β σ : Type} {b : α → σ → Option β × σ} : ∀ {xs : List α} {s : σ}, lcSX (fun _ _ => True) b xs s
  | [], s => trivial
  | x :: xs, s => ⟨trivial, lcSX_T⟩
theorem all_T {σ M : Type} {o : Fo σ M} : o.all (fun _ => True) := by cases o <;> trivial
abbrev Kn {σ M : Type} (K : M → Fl → Rho → Prop) (G : σ → Env) (s : σ) : Fl → Rho → Prop := Kl K G (.nx s)
theorem kn_nx {Γ : Env} {σ M : Type} {K : M → Fl → Rho → Prop} {G : σ → Env} {s : σ} (l : LeE Γ (G s)) : ∀ ρ, Sat Γ ρ → Kn K G s .nx ρ := fun ρ q => ⟨.inl rfl, l.sat q⟩
theorem kn_ct {Γ : Env} {σ M : Type} {K : M → Fl → Rho → Prop} {G : σ → Env} {s : σ} (l : LeE Γ (G s)) : ∀ ρ, Sat Γ ρ → Kn K G s .ct ρ := fun ρ q => ⟨.inr rfl, l.sat q⟩
theorem kj_of {Γ : Env} {σ : Type} {G : σ → Env} {s : σ} (l : LeE Γ (G s)) : ∀ ρ, Sat Γ ρ → Kj G s .nx ρ := fun ρ q => ⟨rfl, l.sat q⟩
theorem w_dt : ∀ d : D, (Sl.dt d).dat = some d := fun _ => rfl
theorem w_dt2 : ∀ d d' : D, wbS (Sl.dt d) d' = Sl.dt d' := fun _ _ => rfl
theorem w_io : ∀ d : D, (Sl.io d).dat = some d := fun _ => rfl
theorem w_io2 : ∀ d d' : D, wbS (Sl.io d) d' = Sl.io d' := fun _ _ => rfl
theorem seqT {xs : List D} : seqOf (.nd .tup xs) = some xs := rfl
theorem seqL {o : Bool} {xs : List D} : seqOf (.nd (.lst o) xs) = some xs := rfl
/-- a place in a written row -/
theorem o_ixR (n : Nat) {ds : List D} {d : D} (h : ds[n]? = some d) (hF : d.isF = true) : sIx (.nd .tup ds) (.int (n : Int)) = some d := by
  have hn : n < ds.length := (List.getElem?_eq_some_iff.mp h).1
  refine o_ixP ?_ hF
  unfold atI ixN
  rw [if_pos (by omega), if_pos (by omega)]
  simpa using h
theorem o_ixRL {ds : List D} {d : D} (h : ds.getLast? = some d) (hF : d.isF = true) : sIx (.nd .tup ds) (.int (-1)) = some d := by
  have hn : 0 < ds.length := by
    cases ds with
    | nil => cases h
    | cons _ _ => simp
  refine o_ixP ?_ hF
  unfold atI ixN
  rw [if_neg (by omega), if_pos (by omega)]
  rw [List.getLast?_eq_getElem?] at h
  have e : (-1 + (ds.length : Int)).toNat = ds.length - 1 := by omega
  rw [Option.bind_some, e]; exact h
theorem map_mem_list {α β : Type} {f : α → β} {xs : List α} : True := trivial
theorem ji_le {Γ Γ1 Γ2 : Env} {f : FI} {xs : List D} (h : JI Γ f xs Γ1) (l : LeE Γ1 Γ2) : JI Γ f xs Γ2 := fun ρ s => by
  obtain ⟨ρ1, e1, s1⟩ := h ρ s
  exact ⟨ρ1, e1, l.sat s1⟩
theorem jt_le {Γ Γ1 Γ2 : Env} {f : FT} {b : Bool} (h : JT Γ f b Γ1) (l : LeE Γ1 Γ2) : JT Γ f b Γ2 := fun ρ s => by
  obtain ⟨ρ1, e1, s1⟩ := h ρ s
  exact ⟨ρ1, e1, l.sat s1⟩
theorem rds1 {Γ : Env} {r : R} {d : D} (h : rdE Γ r = some d) : rdsE Γ [r] = some [d] := by unfold rdsE; rw [h]; rfl
theorem rds2 {Γ : Env} {r r' : R} {d d' : D} (h : rdE Γ r = some d) (h' : rdE Γ r' = some d') : rdsE Γ [r, r'] = some [d, d'] := by unfold rdsE; rw [h, rds1 h']
theorem rds3 {Γ : Env} {r r' r2 : R} {d d' d2 : D} (h : rdE Γ r = some d) (h' : rdE Γ r' = some d') (h2 : rdE Γ r2 = some d2) : rdsE Γ [r, r', r2] = some [d, d', d2] := by unfold rdsE; rw [h, rds2 h' h2]
theorem je_callP {Γ Γ1 : Env} {ms : List Bool} {F : List D → CO} {fs : FA} {rs : List R} {ds os : List D} {res : D} (h : JA Γ fs rs Γ1) (ha : ArgsE Γ1 ms rs ds) (hF : F ds = .ok res os) (hp : pairs ms rs 0 = []) : JE Γ (fCallU ms F fs) (.val res) Γ1 := by
  have := je_callU h ha hF (by rw [hp]; exact List.nodup_nil)
  rw [hp] at this
  exact this
/-! like, pick -/
def D.tpC {α : Type} (c : Cd α) : Prop := ∃ n, n ≤ 60 ∧ ∀ a, D.tp n (c.e a) = true
end EE

/-! layer T, part Y: the laws' own look at equal things -/
namespace EE
open PySem PySem.Spec
open PyProof.Rows hiding St
open L2
def lkB : FS := fSeq (fIfS (fB (fOp2 sEq (fName 2) (fLst faNil))) ((fRet (fC (.bl true)))) fNx) (fSeq (fAsg (fPop 2) (gTup [(gSet 4), (gSet 5)])) ((fIfS (fB (fOp1 (sIsN false) (fName 5))) ((fIfS (fB (fOp1 (sIsN true) (fName 4))) ((fRet (fC (.bl false)))) fNx)) ((fIfS (fB (fIsI "bool" (fName 5))) ((fIfS (ftOr (ftNot (fB (fIsI "bool" (fName 4)))) (fB (fOp2 sNe (fName 4) (fName 5)))) ((fRet (fC (.bl false)))) fNx)) ((fIfS (fB (fIsI "tuple" (fName 5))) (fSeq (fIfS (ftOr (ftNot (fB (fIsI "tuple" (fName 4)))) (fB (fOp2 sNe (fCall sLen (faCons (fName 4) faNil)) (fCall sLen (faCons (fName 5) faNil))))) ((fRet (fC (.bl false)))) fNx) ((fDrop (fExt 2 (fCall sLZ (faCons (fName 4) (faCons (fName 5) faNil))))))) ((fIfS (fB (fIsI "str" (fName 5))) ((fIfS (ftOr (ftNot (fB (fIsI "str" (fName 4)))) (fB (fOp2 sNe (fName 4) (fName 5)))) ((fRet (fC (.bl false)))) fNx)) ((fIfS (ftOr (ftNot (fB (fIsI "int" (fName 4)))) (ftOr (fB (fIsI "bool" (fName 4))) (fB (fOp2 sNe (fName 4) (fName 5))))) ((fRet (fC (.bl false)))) fNx)))))))))))
theorem lkB_eq : lkB = fSeq (fIfS (fB (fOp2 sEq (fName 2) (fLst faNil))) ((fRet (fC (.bl true)))) fNx) (fSeq (fAsg (fPop 2) (gTup [(gSet 4), (gSet 5)])) ((fIfS (fB (fOp1 (sIsN false) (fName 5))) ((fIfS (fB (fOp1 (sIsN true) (fName 4))) ((fRet (fC (.bl false)))) fNx)) ((fIfS (fB (fIsI "bool" (fName 5))) ((fIfS (ftOr (ftNot (fB (fIsI "bool" (fName 4)))) (fB (fOp2 sNe (fName 4) (fName 5)))) ((fRet (fC (.bl false)))) fNx)) ((fIfS (fB (fIsI "tuple" (fName 5))) (fSeq (fIfS (ftOr (ftNot (fB (fIsI "tuple" (fName 4)))) (fB (fOp2 sNe (fCall sLen (faCons (fName 4) faNil)) (fCall sLen (faCons (fName 5) faNil))))) ((fRet (fC (.bl false)))) fNx) ((fDrop (fExt 2 (fCall sLZ (faCons (fName 4) (faCons (fName 5) faNil))))))) ((fIfS (fB (fIsI "str" (fName 5))) ((fIfS (ftOr (ftNot (fB (fIsI "str" (fName 4)))) (fB (fOp2 sNe (fName 4) (fName 5)))) ((fRet (fC (.bl false)))) fNx)) ((fIfS (ftOr (ftNot (fB (fIsI "int" (fName 4)))) (ftOr (fB (fIsI "bool" (fName 4))) (fB (fOp2 sNe (fName 4) (fName 5))))) ((fRet (fC (.bl false)))) fNx))))))))))) := rfl
noncomputable def lkF (N : Int) : FS := fSeq (fAsg (fLst (faCons (fTup (faCons (fFz (fName 0)) (faCons (fFz (fName 1)) faNil))) faNil)) (gSet 2)) (fSeq (fFor (fiRng1 (faCons (fC (.int N)) faNil)) (gSet 3) lkB) (fRet (fC (.bl false))))
/-- the stack of pairs -/
def prs (S : List D) : D := .nd (.lst true) (S.map fun x => .nd .tup [x, x])
theorem szL_pos : ∀ (x : D), 0 < D.sz x
  | .nd k xs => by unfold D.sz; omega
  | .non => by decide
  | .bl _ => by simp [D.sz]
  | .int _ => by simp [D.sz]
  | .str _ => by simp [D.sz]
theorem szL_len : ∀ (S : List D), S.length ≤ D.szL S
  | [] => Nat.le_refl _
  | x :: S => by
    have := szL_len S
    have := szL_pos x
    unfold D.szL
    rw [List.length_cons]; omega
theorem prs_ok {S : List D} (h : ∀ x ∈ S, D.tp 60 x = true) : D.ok 64 (prs S) = true := by
  unfold prs
  simp only [D.ok, kOk, Bool.true_and, List.all_eq_true]
  intro x hx
  obtain ⟨y, hy, rfl⟩ := List.mem_map.mp hx
  have := D.ok_mono (D.tp_ok (h y hy)) (show 60 ≤ 62 by decide)
  simp [D.ok, kOk, this]
theorem like_loop (d e : D) : ∀ (items S : List D) (s3 s4 s5 : Sl), (∃ ns : List Int, items = ns.map D.int) → ((s3 = .un ∧ s4 = .un ∧ s5 = .un) ∨ ∃ a b c, s3 = .dt a ∧ s4 = .dt b ∧ s5 = .dt c) → (∀ x ∈ S, D.tp 60 x = true) → D.szL S < items.length → D.szL S < 1000000 →
    ∃ L a b c, forL (gSet 3) lkB items [.dt d, .dt e, .dt (prs S), s3, s4, s5] = .ok (.rt (.bl true)) [.dt d, .dt e, L, a, b, c]
  | [], S, _, _, _, _, _, _, hl, _ => by simp at hl
  | t :: items, S, s3, s4, s5, ⟨ns, hns⟩, hs, hS, hl, hb => by
    cases ns with
    | nil => cases hns
    | cons n ns =>
    rw [List.map_cons] at hns
    injection hns with h1 h2
    subst h1
    rw [forL]
    have hG : gSet 3 (.int n) [.dt d, .dt e, .dt (prs S), s3, s4, s5] = .ok () [.dt d, .dt e, .dt (prs S), .dt (.int n), s4, s5] := by
      rcases hs with ⟨rfl, rfl, rfl⟩ | ⟨a, b, c, rfl, rfl, rfl⟩ <;> rfl
    rw [hG]
    simp only
    have hok := prs_ok hS
    have h45 : (s4 = .un ∧ s5 = .un) ∨ ∃ b c, s4 = .dt b ∧ s5 = .dt c := by
      rcases hs with ⟨rfl, rfl, rfl⟩ | ⟨a, b, c, rfl, rfl, rfl⟩
      · exact .inl ⟨rfl, rfl⟩
      · exact .inr ⟨_, _, rfl, rfl⟩
    clear hs hG
    rcases snoc_cases S with rfl | ⟨S', x, rfl⟩
    · have ho : lkB [.dt d, .dt e, .dt (prs []), .dt (.int n), s4, s5] = lkB [.dt d, .dt e, .dt (prs []), .dt (.int n), s4, s5] := rfl
      conv at ho =>
        rhs
        rw [lkB_eq]
        simp [rho0, fSeq, fIfS, fB, fOp2, fOp1, fC, fName, slot, Sl.dat, out2, out1, sIx, seqOf_tup, seqOf_lst, atI, ixN, D.isF, D.isFL, Kd.isF, sGt, sLt, sLe, sGe, s2I, tstB, fAsg, asg, gSet, fOwn, own, ownB, fFz, fzz, fCall, faCons, faApp, faNil, outL, rds, sInt, sMod, sDiv, sSub, sAdd, sMul, gStore, isOwn, stB, wbS, fRet, fMv, mv, rtn, lent, fTup, fLst, outTup, outLst, valsOf, fIf, ftNot, ftAnd, ftOr, fAnd, fOr, fNot, fNx, fBk, fCt, fDrop, fRetN, sIsN, D.isN, sIsI, fIsI, tyD, sLen, sAbs, sMax2, sMin2, sTuple, sList, sLZ, sNeg, s1I, fCallU, callU, pairs, argsOf, lends, wb, fApp, appB, chg, mApp, fExt, extB, mExt, fPop, mPop, fPopAt, popB, mPopAt, EE.gTup, gAll, fPar, par, fAug, sIpA, sIpS, sEqI, sNeI, fiRng1, fiRng2, rng1, rng2, fiSeq, iti, itm, fiEnum, enumI, fiZip, zipI, fYes, fLC, lcEnd, fFor, forL, lcL, wipeR, backR, sEq, prs, D.ok, kOk, D.eqb, kEq, D.eqbL]
      rw [ho]
      exact ⟨_, _, _, _, rfl⟩
    · have hx : D.tp 60 x = true := hS x (by simp)
      have hS' : ∀ y ∈ S', D.tp 60 y = true := fun y hy => hS y (by simp [hy])
      rw [D.szL_append] at hl hb
      simp only [D.szL, Nat.add_zero] at hl hb
      have pos := szL_pos x
      rw [List.length_cons] at hl
      have hox : D.ok 64 x = true := D.ok_mono (D.tp_ok hx) (by decide)
      have hex := D.eqb_refl 60 x hx
      have hxF := D.tp_F hx
      have hln : D.ok 64 (.nd (.lst true) []) = true := rfl
      have hok' : D.ok 64 (.nd (.lst true) (S'.map (fun x => D.nd .tup [x, x]) ++ [.nd .tup [x, x]])) = true := by
        have : prs (S' ++ [x]) = .nd (.lst true) (S'.map (fun x => D.nd .tup [x, x]) ++ [.nd .tup [x, x]]) := by simp [prs]
        rw [← this]; exact hok
      have key : ∃ S2, (∀ y ∈ S2, D.tp 60 y = true) ∧ D.szL S2 < D.szL S' + D.sz x ∧ lkB [.dt d, .dt e, .dt (prs (S' ++ [x])), .dt (.int n), s4, s5] = .ok .nx [.dt d, .dt e, .dt (prs S2), .dt (.int n), .dt x, .dt x] := by
        cases x with
        | nd k xs =>
          have hk : k = .tup := by cases k <;> simp_all [D.tp]
          subst hk
          have hxs : ∀ y ∈ xs, D.tp 60 y = true := fun y hy => by
            simp only [D.tp, Bool.and_eq_true, List.all_eq_true] at hx
            exact D.tp_mono (hx.2 y hy) (by decide)
          have hFL : D.isFL xs = true := D.isFL_iff.mpr fun y hy => D.tp_F (hxs y hy)
          have hFL2 : D.isFL (xs.map fun x => D.nd .tup [x, x]) = true := D.isFL_iff.mpr fun y hy => by
            obtain ⟨z, hz, rfl⟩ := List.mem_map.mp hy
            have := D.tp_F (hxs z hz)
            simp [D.isF, D.isFL, Kd.isF, this]
          have l1 := szL_len S'
          have l2 := szL_len xs
          have hsz : D.sz (.nd .tup xs) = 1 + D.szL xs := rfl
          have hlen : S'.length + xs.length ≤ sizeLine := Nat.le_trans (show S'.length + xs.length ≤ 1000000 by omega) (by decide)
          refine ⟨S' ++ xs, fun y hy => (List.mem_append.mp hy).elim (hS' y) (hxs y), by rw [D.szL_append]; omega, ?_⟩
          rcases h45 with ⟨rfl, rfl⟩ | ⟨b4, b5, rfl, rfl⟩
          all_goals
            rw [lkB_eq]
            simp [rho0, fSeq, fIfS, fB, fOp2, fOp1, fC, fName, slot, Sl.dat, out2, out1, sIx, seqOf_tup, seqOf_lst, atI, ixN, D.isF, D.isFL, Kd.isF, sGt, sLt, sLe, sGe, s2I, tstB, fAsg, asg, gSet, fOwn, own, ownB, fFz, fzz, fCall, faCons, faApp, faNil, outL, rds, sInt, sMod, sDiv, sSub, sAdd, sMul, gStore, isOwn, stB, wbS, fRet, fMv, mv, rtn, lent, fTup, fLst, outTup, outLst, valsOf, fIf, ftNot, ftAnd, ftOr, fAnd, fOr, fNot, fNx, fBk, fCt, fDrop, fRetN, sIsN, D.isN, sIsI, fIsI, tyD, sLen, sAbs, sMax2, sMin2, sTuple, sList, sLZ, sNeg, s1I, fCallU, callU, pairs, argsOf, lends, wb, fApp, appB, chg, mApp, fExt, extB, mExt, fPop, mPop, fPopAt, popB, mPopAt, EE.gTup, gAll, fPar, par, fAug, sIpA, sIpS, sEqI, sNeI, fiRng1, fiRng2, rng1, rng2, fiSeq, iti, itm, fiEnum, enumI, fiZip, zipI, fYes, fLC, lcEnd, fFor, forL, lcL, wipeR, backR, sEq, sNe, prs, hok', hln, D.eqb, kEq, eqbL_nil, hFL, hFL2, hlen, zp_self, kb1, kb2, kb3, kb4, kb5, kb6, kb7, okI]
        | non =>
          refine ⟨S', hS', by omega, ?_⟩
          rcases h45 with ⟨rfl, rfl⟩ | ⟨b4, b5, rfl, rfl⟩
          all_goals
            rw [lkB_eq]
            simp [rho0, fSeq, fIfS, fB, fOp2, fOp1, fC, fName, slot, Sl.dat, out2, out1, sIx, seqOf_tup, seqOf_lst, atI, ixN, D.isF, D.isFL, Kd.isF, sGt, sLt, sLe, sGe, s2I, tstB, fAsg, asg, gSet, fOwn, own, ownB, fFz, fzz, fCall, faCons, faApp, faNil, outL, rds, sInt, sMod, sDiv, sSub, sAdd, sMul, gStore, isOwn, stB, wbS, fRet, fMv, mv, rtn, lent, fTup, fLst, outTup, outLst, valsOf, fIf, ftNot, ftAnd, ftOr, fAnd, fOr, fNot, fNx, fBk, fCt, fDrop, fRetN, sIsN, D.isN, sIsI, fIsI, tyD, sLen, sAbs, sMax2, sMin2, sTuple, sList, sLZ, sNeg, s1I, fCallU, callU, pairs, argsOf, lends, wb, fApp, appB, chg, mApp, fExt, extB, mExt, fPop, mPop, fPopAt, popB, mPopAt, EE.gTup, gAll, fPar, par, fAug, sIpA, sIpS, sEqI, sNeI, fiRng1, fiRng2, rng1, rng2, fiSeq, iti, itm, fiEnum, enumI, fiZip, zipI, fYes, fLC, lcEnd, fFor, forL, lcL, wipeR, backR, sEq, sNe, prs, hok', hln, D.eqb, kEq, eqbL_nil]
        | bl b =>
          refine ⟨S', hS', by omega, ?_⟩
          rcases h45 with ⟨rfl, rfl⟩ | ⟨b4, b5, rfl, rfl⟩
          all_goals
            rw [lkB_eq]
            simp [rho0, fSeq, fIfS, fB, fOp2, fOp1, fC, fName, slot, Sl.dat, out2, out1, sIx, seqOf_tup, seqOf_lst, atI, ixN, D.isF, D.isFL, Kd.isF, sGt, sLt, sLe, sGe, s2I, tstB, fAsg, asg, gSet, fOwn, own, ownB, fFz, fzz, fCall, faCons, faApp, faNil, outL, rds, sInt, sMod, sDiv, sSub, sAdd, sMul, gStore, isOwn, stB, wbS, fRet, fMv, mv, rtn, lent, fTup, fLst, outTup, outLst, valsOf, fIf, ftNot, ftAnd, ftOr, fAnd, fOr, fNot, fNx, fBk, fCt, fDrop, fRetN, sIsN, D.isN, sIsI, fIsI, tyD, sLen, sAbs, sMax2, sMin2, sTuple, sList, sLZ, sNeg, s1I, fCallU, callU, pairs, argsOf, lends, wb, fApp, appB, chg, mApp, fExt, extB, mExt, fPop, mPop, fPopAt, popB, mPopAt, EE.gTup, gAll, fPar, par, fAug, sIpA, sIpS, sEqI, sNeI, fiRng1, fiRng2, rng1, rng2, fiSeq, iti, itm, fiEnum, enumI, fiZip, zipI, fYes, fLC, lcEnd, fFor, forL, lcL, wipeR, backR, sEq, sNe, prs, hok', hln, D.eqb, kEq, eqbL_nil, hox, hex, kb1, kb2, kb3, kb4, kb5, kb6, kb7]
        | int i =>
          refine ⟨S', hS', by omega, ?_⟩
          rcases h45 with ⟨rfl, rfl⟩ | ⟨b4, b5, rfl, rfl⟩
          all_goals
            rw [lkB_eq]
            simp [rho0, fSeq, fIfS, fB, fOp2, fOp1, fC, fName, slot, Sl.dat, out2, out1, sIx, seqOf_tup, seqOf_lst, atI, ixN, D.isF, D.isFL, Kd.isF, sGt, sLt, sLe, sGe, s2I, tstB, fAsg, asg, gSet, fOwn, own, ownB, fFz, fzz, fCall, faCons, faApp, faNil, outL, rds, sInt, sMod, sDiv, sSub, sAdd, sMul, gStore, isOwn, stB, wbS, fRet, fMv, mv, rtn, lent, fTup, fLst, outTup, outLst, valsOf, fIf, ftNot, ftAnd, ftOr, fAnd, fOr, fNot, fNx, fBk, fCt, fDrop, fRetN, sIsN, D.isN, sIsI, fIsI, tyD, sLen, sAbs, sMax2, sMin2, sTuple, sList, sLZ, sNeg, s1I, fCallU, callU, pairs, argsOf, lends, wb, fApp, appB, chg, mApp, fExt, extB, mExt, fPop, mPop, fPopAt, popB, mPopAt, EE.gTup, gAll, fPar, par, fAug, sIpA, sIpS, sEqI, sNeI, fiRng1, fiRng2, rng1, rng2, fiSeq, iti, itm, fiEnum, enumI, fiZip, zipI, fYes, fLC, lcEnd, fFor, forL, lcL, wipeR, backR, sEq, sNe, prs, hok', hln, D.eqb, kEq, eqbL_nil, hox, hex, kb1, kb2, kb3, kb4, kb5, kb6, kb7, kb8, kb9, kb10]
        | str z =>
          refine ⟨S', hS', by omega, ?_⟩
          rcases h45 with ⟨rfl, rfl⟩ | ⟨b4, b5, rfl, rfl⟩
          all_goals
            rw [lkB_eq]
            simp [rho0, fSeq, fIfS, fB, fOp2, fOp1, fC, fName, slot, Sl.dat, out2, out1, sIx, seqOf_tup, seqOf_lst, atI, ixN, D.isF, D.isFL, Kd.isF, sGt, sLt, sLe, sGe, s2I, tstB, fAsg, asg, gSet, fOwn, own, ownB, fFz, fzz, fCall, faCons, faApp, faNil, outL, rds, sInt, sMod, sDiv, sSub, sAdd, sMul, gStore, isOwn, stB, wbS, fRet, fMv, mv, rtn, lent, fTup, fLst, outTup, outLst, valsOf, fIf, ftNot, ftAnd, ftOr, fAnd, fOr, fNot, fNx, fBk, fCt, fDrop, fRetN, sIsN, D.isN, sIsI, fIsI, tyD, sLen, sAbs, sMax2, sMin2, sTuple, sList, sLZ, sNeg, s1I, fCallU, callU, pairs, argsOf, lends, wb, fApp, appB, chg, mApp, fExt, extB, mExt, fPop, mPop, fPopAt, popB, mPopAt, EE.gTup, gAll, fPar, par, fAug, sIpA, sIpS, sEqI, sNeI, fiRng1, fiRng2, rng1, rng2, fiSeq, iti, itm, fiEnum, enumI, fiZip, zipI, fYes, fLC, lcEnd, fFor, forL, lcL, wipeR, backR, sEq, sNe, prs, hok', hln, D.eqb, kEq, eqbL_nil, hox, hex, kb1, kb2, kb3, kb4, kb5, kb6, kb7, kb8, kb9, kb10]
      obtain ⟨S2, h3, h4, ho⟩ := key
      rw [ho]
      exact like_loop d e items S2 _ _ _ ⟨ns, h2⟩ (.inr ⟨_, _, _, rfl, rfl, rfl⟩) h3 (by omega) (by omega)
theorem like_top (N : Nat) (d : D) (h : D.tp 60 d = true) (hs : D.sz d < N) (hb : D.sz d < 1000000) : ∃ L a b c, forL (gSet 3) lkB (EE.upTo 0 N) [.dt d, .dt d, .dt (.nd (.lst true) [.nd .tup [d, d]]), .un, .un, .un] = .ok (.rt (.bl true)) [.dt d, .dt d, L, a, b, c] :=
  like_loop d d (EE.upTo 0 N) [d] .un .un .un ⟨(List.range N).map fun i => (0 + (i : Nat) : Int), by unfold EE.upTo; rw [List.map_map]; rfl⟩ (.inl ⟨rfl, rfl, rfl⟩) (fun x hx => by (have : x = d := by simpa using hx); rw [this]; exact h) (by rw [upTo_len]; unfold D.szL D.szL; exact hs) (by unfold D.szL D.szL; exact hb)
theorem like_mid (N : Int) (d : D) (hF : d.isF = true) (r3 : Sm N) (L a b c : Sl) (e : forL (gSet 3) lkB (EE.upTo 0 N.toNat) [.dt d, .dt d, .dt (.nd (.lst true) [.nd .tup [d, d]]), .un, .un, .un] = .ok (.rt (.bl true)) [.dt d, .dt d, L, a, b, c]) :
  runF [false, false] 6 (lkF N) [d, d] = .ok (.bl true) [.non, .non] := by
  rw [runF_def]
  unfold lkF
  simp [rho0, fSeq, fIfS, fB, fOp2, fOp1, fC, fName, slot, Sl.dat, out2, out1, sIx, seqOf_tup, seqOf_lst, atI, ixN, D.isF, D.isFL, Kd.isF, sGt, sLt, sLe, sGe, s2I, tstB, fAsg, asg, gSet, fOwn, own, ownB, fFz, fzz, fCall, faCons, faApp, faNil, outL, rds, sInt, sMod, sDiv, sSub, sAdd, sMul, gStore, isOwn, stB, wbS, fRet, fMv, mv, rtn, lent, fTup, fLst, outTup, outLst, valsOf, fIf, ftNot, ftAnd, ftOr, fAnd, fOr, fNot, fNx, fBk, fCt, fDrop, fRetN, sIsN, D.isN, sIsI, fIsI, tyD, sLen, sAbs, sMax2, sMin2, sTuple, sList, sLZ, sNeg, s1I, fCallU, callU, pairs, argsOf, lends, wb, fApp, appB, chg, mApp, fExt, extB, mExt, fPop, mPop, fPopAt, popB, mPopAt, EE.gTup, gAll, fPar, par, fAug, sIpA, sIpS, sEqI, sNeI, fiRng1, fiRng2, rng1, rng2, fiSeq, iti, itm, fiEnum, enumI, fiZip, zipI, fYes, fLC, lcEnd, fFor, forL, lcL, wipeR, backR, hF, e, r3, sl2, sl1]
theorem like_gen (d : D) (h : D.tp 60 d = true) (hs : D.sz d < 1000000) : runF [false, false] 6 (lkF 1000000) [d, d] = .ok (.bl true) [.non, .non] := by
  have hF := D.tp_F h
  have r3 : Sm 1000000 := sm_of (by decide) (by decide)
  obtain ⟨L, a, b, c, e⟩ := like_top (Int.toNat (1000000 : Int)) d h (by rw [show Int.toNat (1000000 : Int) = 1000000 by decide]; exact hs) hs
  exact like_mid 1000000 d hF r3 L a b c e
end EE

/-! layer E, part UA: sorted(set(..)) of tuples of ints -/
namespace EE
open PySem PySem.Spec PySem.Calls
open PyProof.Rows hiding St
open L2
open PyProof.Rows (itemOrd)
open PySem.W (dataLe dataLt AllAlike Sortable SortsAt EachIs each_map bound_map sortVals_length sortVals_data sortingHeap list_sort_vals dataKind)
def tupPy (k : List Int) : PyData := .tuple (k.map PyData.int)
theorem alike_ints : ∀ (a b : List Int), PySem.W.alikeAll (a.map PyData.int) (b.map PyData.int) = true
  | [], b => by cases b <;> rfl
  | x :: a, [] => rfl
  | x :: a, y :: b => by
    show (PySem.W.alike (.int x) (.int y) && PySem.W.alikeAll _ _) = true
    rw [alike_ints a b]; rfl
theorem alike_tups (L : List (Addr × List Int)) : AllAlike (L.map fun q => tupPy q.2) := by
  intro d hd d' hd'
  obtain ⟨p, _, rfl⟩ := List.mem_map.mp hd
  obtain ⟨q, _, rfl⟩ := List.mem_map.mp hd'
  show PySem.W.alike (.tuple _) (.tuple _) = true
  unfold PySem.W.alike
  exact alike_ints _ _
theorem depth_ints : ∀ (k : List Int), PyData.depthAll (k.map PyData.int) ≤ 1
  | [] => by show PyData.depthAll [] ≤ 1; unfold PyData.depthAll; omega
  | x :: k => by
    have ih := depth_ints k
    show PyData.depthAll (PyData.int x :: k.map PyData.int) ≤ 1
    unfold PyData.depthAll
    have : (PyData.int x).depth = 0 := by unfold PyData.depth; rfl
    omega
theorem depth_tup (k : List Int) : (tupPy k).depth ≤ 2 := by
  have := depth_ints k
  show (PyData.tuple _).depth ≤ 2
  unfold PyData.depth
  omega
theorem each0 (L1 : List (Addr × List Int)) : EachIs (fun (v : Value) (q : Addr × List Int) => v = .ref q.1) (L1.map fun q => Value.ref q.1) L1 := by
  induction L1 with
  | nil => exact .nil
  | cons q L1 ih => exact .cons rfl ih
section
variable {P : Program} {w : World} {A : Around} {E : Value → Shared → Prop} {s : Shared}
theorem reads_ints {h : Heap} : ∀ {k : List Int} {vs : List Value}, ItemsAre (intKind P w) k vs → ∃ as, ReadsAll h vs (k.map PyData.int) as
  | [], _, .nil => ⟨[], .nil⟩
  | i :: k, _, .cons hv t => by
    obtain ⟨n, tk, rfl⟩ := items_int (P := P) (w := w) (.cons hv .nil) _ List.mem_cons_self
    have e : n = i := by
      have : ((n == i) = true) := hv
      exact beq_iff_eq.mp this
    subst e
    obtain ⟨as, r⟩ := reads_ints t
    exact ⟨_, .cons (.int n tk) r⟩
theorem reads_tup {h : Heap} {k : List Int} {a : Addr} (x : IsT P w h k a) : ∃ as, Reads h (.ref a) (tupPy k) as := by
  obtain ⟨o, items, n, ho, hc, hd, hi⟩ := x
  obtain ⟨as, r⟩ := reads_ints (h := h) hi
  exact ⟨_, .tuple ho hc hd (by simpa using r)⟩
/-- sorted(s), s a set of tuples of ints, of any lengths -/
theorem sorted_setU {a : Addr} {L : List (Addr × List Int)} {es : Array (Int × Value)} {ep : Nat} {t : SetTable} {Q : Value → Shared → Prop} (R : SetTR P w s.heap a L es ep t) (hh : A.handled = none) (hu : A.units + 10 < cLine)
    (hQ : ∀ s' p (out : Array Value) (c : Nat) (L1 : List (Addr × List Int)), (∀ b o, s.heap.get? b = some o → s'.heap.get? b = some o) → s'.gens = s.gens → s'.os = s.os → s.heap.objs.size ≤ p →
      s'.heap.get? p = some (seqObj "list" out c) → L1.Perm L → EachIs (fun (v : Value) (q : Addr × List Int) => v = .ref q.1) out.toList (L1.mergeSort (dataLe false fun q => tupPy q.2)) → Q (.ref p) s') :
    wpAny (model P w) A (call (.builtin "sorted") [.ref a]) Q E s := by
  obtain ⟨o, ho, hex, hd⟩ := R.ob
  have hsz := R.size
  have hfew := R.few
  refine Calls.call_function_entry kind_sorted plain_sorted entry_sorted (args_sorted1 _) ?_
  unfold Builtin.«sorted»
  refine wpAny_bind (m := checkCount "sorted" 1 1 _) (wpAny_pure ?_)
  refine wpAny_bind (collect_set (A := A.in1) hh ⟨o, ho, hex.1, hd⟩ R.fits (by unfold scanBound; omega) R.tab.ris R.led fun s1 vs k1 hz g1 o1 pm => ?_)
  have hes : es.toList.map (·.2) = L.map fun q => Value.ref q.1 := by
    rw [R.rows]
    unfold rowsOf
    rw [List.map_map]; rfl
  rw [hes] at pm
  have ord : ∀ vs : List Value, (∀ v ∈ vs, ∃ q ∈ L, v = Value.ref q.1) → ∃ L1 : List (Addr × List Int), vs = L1.map (fun q => Value.ref q.1) ∧ ∀ q ∈ L1, q ∈ L := by
    intro vs
    induction vs with
    | nil => intro _; exact ⟨[], rfl, fun q hq => (by cases hq)⟩
    | cons v vs ih =>
      intro hv
      obtain ⟨q, hq, e⟩ := hv v List.mem_cons_self
      obtain ⟨L1, e1, hs⟩ := ih fun u hu => hv u (List.mem_cons_of_mem _ hu)
      refine ⟨q :: L1, by rw [List.map_cons, e, e1], fun r hr => ?_⟩
      rcases List.mem_cons.mp hr with z | z
      · rw [z]; exact hq
      · exact hs r z
  have one : ∀ q ∈ L, ∀ r ∈ L, q.1 = r.1 → q = r := fun q hq r hr e => by
    have a1 := R.tup q hq
    have a2 := R.tup r hr
    rw [e] at a1
    exact Prod.ext e (a1.inj a2)
  have perm_of : ∀ L1 : List (Addr × List Int), (∀ q ∈ L1, q ∈ L) → (L1.map (fun q => Value.ref q.1)).Perm (L.map fun q => Value.ref q.1) → L1.Perm L := by
    intro L1 hs pm1
    have nL : L.Nodup := nodup_of_map R.nd
    have nref : (L.map fun q => Value.ref q.1).Nodup := by
      refine List.pairwise_map.mpr (List.Pairwise.imp_of_mem (fun {q r} hq hr hne e => ?_) nL)
      injection e with e
      exact hne (one q hq r hr e)
    have n1 : L1.Nodup := nodup_of_map (pm1.nodup_iff.mpr nref)
    refine (List.perm_ext_iff_of_nodup n1 nL).mpr fun q => ⟨hs q, fun hq => ?_⟩
    have : Value.ref q.1 ∈ L1.map (fun q => Value.ref q.1) := pm1.symm.subset (List.mem_map.mpr ⟨q, hq, rfl⟩)
    obtain ⟨r, hr, e⟩ := List.mem_map.mp this
    injection e with e
    rw [one q hq r (hs r hr) e.symm]; exact hr
  obtain ⟨L1, e1, hs1⟩ := ord vs fun v hv => by
    obtain ⟨q, hq, e⟩ := List.mem_map.mp (pm.mem_iff.mp hv)
    exact ⟨q, hq, e.symm⟩
  have pL : L1.Perm L := perm_of L1 hs1 (by rw [← e1]; exact pm)
  have hvl : vs.length < 64 := by rw [pm.length_eq, List.length_map]; exact hfew
  have hvs : vs.length ≤ sizeLine := by rw [sizeLine_eq]; omega
  refine wpAny_bind (wpAny_newList ?_ hvs)
  have hoL : (s1.heap.push (seqObj "list" vs.toArray 0)).get? s1.heap.objs.size = some (seqObj "list" vs.toArray 0) := Heap.get?_push_size _ rfl
  have er : ∀ (L2 : List (Addr × List Int)), (∀ q ∈ L2, q ∈ L) → EachIs (fun v d => ∃ as, Reads (sortingHeap (s1.heap.push (seqObj "list" vs.toArray 0)) s1.heap.objs.size vs) v d as) (L2.map fun q => Value.ref q.1) (L2.map fun q => tupPy q.2) := by
    intro L2
    induction L2 with
    | nil => intro _; exact .nil
    | cons q L2 ih =>
      intro h
      obtain ⟨as, r⟩ := reads_tup (R.tup q (h q List.mem_cons_self))
      refine .cons ⟨as, PyProof.Rows.Reads.keeps (fun b u e => ?_) r⟩ (ih fun x hx => h x (List.mem_cons_of_mem _ hx))
      have q1 := k1 b u e
      have hlt := Heap.lt_size q1
      exact PySem.W.sortingHeap_old (Nat.ne_of_lt hlt) (Heap.get?_push_of_some _ q1)
  have er1 := er L1 hs1
  have hal := alike_tups L1
  have S : SortsAt P w A.in1.in1 { s1 with heap := sortingHeap (s1.heap.push (seqObj "list" vs.toArray 0)) s1.heap.objs.size vs } (dataKind (sortingHeap (s1.heap.push (seqObj "list" vs.toArray 0)) s1.heap.objs.size vs) (L1.map fun q => tupPy q.2)) vs := by
    rw [e1] at er1 ⊢
    exact sortsAt_tuples (s := { s1 with heap := sortingHeap (s1.heap.push (seqObj "list" (L1.map fun q => Value.ref q.1).toArray 0)) s1.heap.objs.size (L1.map fun q => Value.ref q.1) }) er1 hal (fun d hd => by
      obtain ⟨q, _, rfl⟩ := List.mem_map.mp hd
      exact ⟨_, rfl⟩) (fun d hd => by
      obtain ⟨q, _, rfl⟩ := List.mem_map.mp hd
      have : (tupPy q.2).depth ≤ 2 := depth_tup q.2
      show A.units + 1 + 1 + (tupPy q.2).depth < cLine
      omega)
  refine wpAny_bind (wpAny_holding (wpAny_call_entry slot_list_sort ⟨_, hoL, rfl⟩ entry_list_sort (list_sort_vals (s := { s1 with heap := s1.heap.push (seqObj "list" vs.toArray 0) }) hoL S hvs ⟨_, rfl, ?_⟩) (args_list_sort _)))
  obtain ⟨c, hc⟩ := sortedHeap_at (vs := vs) (out := (PySem.W.sortVals (dataKind (sortingHeap (s1.heap.push (seqObj "list" vs.toArray 0)) s1.heap.objs.size vs) (L1.map fun q => tupPy q.2)) false vs vs).toArray) hoL
  refine wpAny_pure ⟨_, rfl, hQ _ s1.heap.objs.size _ c L1 (fun b u e => ?_) g1 o1 hz hc pL ?_⟩
  · have q := k1 b u e
    have hlt := Heap.lt_size q
    show (sortedHeap (s1.heap.push (seqObj "list" vs.toArray 0)) s1.heap.objs.size vs _).get? b = some u
    rw [sortedHeap_old (Nat.ne_of_lt hlt) (by rw [size_push']; exact Nat.lt_succ_of_lt hlt)]
    exact Heap.get?_push_of_some _ q
  · have e0 : EachIs (fun (v : Value) (q : Addr × List Int) => v = .ref q.1) vs L1 := by
      rw [e1]
      exact each0 L1
    have er2 : EachIs (fun (v : Value) (q : Addr × List Int) => ∃ as, Reads (sortingHeap (s1.heap.push (seqObj "list" vs.toArray 0)) s1.heap.objs.size vs) v (tupPy q.2) as) vs L1 := by
      rw [e1]
      rw [e1] at er1
      exact PySem.W.each_of_map _ er1
    simpa using sortVals_data false e0 er2 hal
end
/-! ### as data -/
/-- each thing once -/
def dd {α : Type} [DecidableEq α] : List α → List α
  | [] => []
  | x :: xs => if x ∈ dd xs then dd xs else x :: dd xs
theorem mem_dd {α : Type} [DecidableEq α] {x : α} : ∀ {xs : List α}, x ∈ dd xs ↔ x ∈ xs
  | [] => Iff.rfl
  | y :: xs => by
    unfold dd
    split
    · rename_i h
      rw [List.mem_cons, mem_dd (xs := xs)]
      exact ⟨.inr, fun z => z.elim (fun e => by rw [e]; exact mem_dd.mp h) id⟩
    · rw [List.mem_cons, List.mem_cons, mem_dd (xs := xs)]
theorem nodup_dd {α : Type} [DecidableEq α] : ∀ (xs : List α), (dd xs).Nodup
  | [] => List.nodup_nil
  | y :: xs => by
    unfold dd
    split
    · exact nodup_dd xs
    · rename_i h
      exact List.nodup_cons.mpr ⟨h, nodup_dd xs⟩
theorem dd_len {α : Type} [DecidableEq α] : ∀ (xs : List α), (dd xs).length ≤ xs.length
  | [] => Nat.le_refl _
  | y :: xs => by
    have := dd_len xs
    unfold dd
    split
    · exact Nat.le_succ_of_le this
    · exact Nat.succ_le_succ this
/-- sorted(set(xs)) -/
def sset {α : Type} [DecidableEq α] (c : Cd α) (xs : List α) : List α := srt c (dd xs)
theorem leC_trans {α : Type} (c : Cd α) (a b d : α) : leC c a b = true → leC c b d = true → leC c a d = true := (PySem.W.sortLe_total _ false _).trans _ _ _
theorem leC_total {α : Type} (c : Cd α) (a b : α) : (leC c a b || leC c b a) = true := by
  rw [Bool.or_eq_true]
  exact (PySem.W.sortLe_total _ false _).total _ _
/-- the order tells things apart -/
def Anti {α : Type} (c : Cd α) : Prop := ∀ a b, leC c a b = true → leC c b a = true → a = b
theorem srt_perm {α : Type} (c : Cd α) (xs : List α) : (srt c xs).Perm xs := List.mergeSort_perm _ _
theorem srt_pw {α : Type} (c : Cd α) (xs : List α) : (srt c xs).Pairwise fun a b => leC c a b = true := List.pairwise_mergeSort (leC_trans c) (leC_total c) xs
theorem srt_eq {α : Type} {c : Cd α} (h : Anti c) {xs ys : List α} (p : xs.Perm ys) : srt c xs = srt c ys :=
  List.Perm.eq_of_pairwise (fun a b _ _ h1 h2 => h a b h1 h2) (srt_pw c xs) (srt_pw c ys) (((srt_perm c xs).trans p).trans (srt_perm c ys).symm)
theorem mem_srt {α : Type} {c : Cd α} {xs : List α} {x : α} : x ∈ srt c xs ↔ x ∈ xs := (srt_perm c xs).mem_iff
theorem srt_len {α : Type} (c : Cd α) (xs : List α) : (srt c xs).length = xs.length := (srt_perm c xs).length_eq
theorem mem_sset {α : Type} [DecidableEq α] {c : Cd α} {xs : List α} {x : α} : x ∈ sset c xs ↔ x ∈ xs := by unfold sset; rw [mem_srt, mem_dd]
theorem sset_len {α : Type} [DecidableEq α] (c : Cd α) (xs : List α) : (sset c xs).length ≤ xs.length := by unfold sset; rw [srt_len]; exact dd_len xs
theorem sset_nodup {α : Type} [DecidableEq α] (c : Cd α) (xs : List α) : (sset c xs).Nodup := ((srt_perm c _).nodup_iff).mpr (nodup_dd xs)
/-- sorted once each: only the members count -/
theorem sset_ext {α : Type} [DecidableEq α] {c : Cd α} (h : Anti c) {xs ys : List α} (e : ∀ x, x ∈ xs ↔ x ∈ ys) : sset c xs = sset c ys :=
  srt_eq h ((List.perm_ext_iff_of_nodup (nodup_dd xs) (nodup_dd ys)).mpr fun x => by rw [mem_dd, mem_dd, e])
/-- .. and what stands sorted, each once, is that -/
theorem sset_unique {α : Type} [DecidableEq α] {c : Cd α} (h : Anti c) {xs ys : List α} (n : ys.Nodup) (p : ys.Pairwise fun a b => leC c a b = true) (e : ∀ x, x ∈ xs ↔ x ∈ ys) : sset c xs = ys :=
  List.Perm.eq_of_pairwise (fun a b _ _ h1 h2 => h a b h1 h2) (srt_pw c _) p ((srt_perm c _).trans ((List.perm_ext_iff_of_nodup (nodup_dd xs) n).mpr fun x => by rw [mem_dd, e]))
theorem anti_of {α : Type} {c : Cd α} (so : So c) : Anti c := by
  intro a b h1 h2
  have h1 : (!PyProof.Rows.lexLt itemOrd (PySem.W.keyToks (toPy (c.e b))) (PySem.W.keyToks (toPy (c.e a)))) = true := h1
  have h2 : (!PyProof.Rows.lexLt itemOrd (PySem.W.keyToks (toPy (c.e a))) (PySem.W.keyToks (toPy (c.e b)))) = true := h2
  rw [Bool.not_eq_true'] at h1 h2
  have e := PyProof.Rows.lex_total _ _ h2 h1
  have q := PySem.W.toks_eqv _ _ (so.al a b)
  have hv : PyData.eqv (toPy (c.e a)) (toPy (c.e b)) = D.eqb (c.e a) (c.e b) := eqv_eqb _ _ (.inr trivial) c.k (c.ok a) (c.ok b)
  rw [hv] at q
  cases hb : D.eqb (c.e a) (c.e b) with
  | true => exact (c.inj a b).mp hb
  | false =>
    have z := q.2 hb [] [.inl 0]
    rw [e, PySem.W.lex_pre] at z
    have y : PyProof.Rows.lexLt itemOrd (PySem.W.keyToks (toPy (c.e b))) (PySem.W.keyToks (toPy (c.e b))) = false := PyProof.Rows.lex_irrefl _
    rw [y] at z
    cases z
/-! ### the rule -/
theorem em_tup (k : List Int) : toPy ((cT cI).e k) = tupPy k := by
  show PyData.tuple (toPyL (k.map cI.e)) = _
  rw [toPyL_map, List.map_map]; rfl
theorem ints_fz {K : PySem.W.Frag} {H : Hp} {a : Addr} {k : List Int} (h : SqT K H a (k.map V.int)) : Fz K H (.ref a) ((cT cI).e k) := by
  refine .nd (k := .tup) h (by simp) fun i v d e1 e2 => ?_
  rw [List.getElem?_map] at e1 e2
  cases e : k[i]? with
  | none => rw [e] at e1; cases e1
  | some n => rw [e] at e1 e2; cases e1; cases e2; exact .int n
theorem fz_ints {K : PySem.W.Frag} {H : Hp} {v : V} {k : List Int} {g : List Addr} (h : Ow K H v ((cT cI).e k) g) : ∃ a, v = .ref a ∧ SqT K H a (k.map V.int) := by
  have h := (h.isF ((cT cI).F k)).1
  cases h with
  | @nd a _ vs _ h1 h2 h3 =>
    refine ⟨a, rfl, ?_⟩
    have e : vs = k.map V.int := by
      refine List.ext_getElem? fun i => ?_
      have l : vs.length = k.length := by simpa using h2
      by_cases hi : i < k.length
      · have e1 : vs[i]? = some (vs[i]'(by omega)) := List.getElem?_eq_getElem _
        have e2 : (k.map cI.e)[i]? = some (.int k[i]) := by rw [List.getElem?_map, List.getElem?_eq_getElem hi]; rfl
        have w := h3 i _ _ e1 e2
        rw [e1, List.getElem?_map, List.getElem?_eq_getElem hi]
        generalize vs[i]'(by omega) = u at w
        cases w; rfl
      · rw [List.getElem?_eq_none (by omega), List.getElem?_eq_none (by simp; omega)]
    rw [← e]; exact h1
/-- what a list of tuples of ints holds -/
def tupsOf : List D → Option (List (List Int))
  | [] => some []
  | .nd .tup xs :: ds => (match intsOfD xs, tupsOf ds with
    | some k, some ks => some (k :: ks)
    | _, _ => none)
  | _ :: _ => none
where intsOfD : List D → Option (List Int)
  | [] => some []
  | .int i :: ds => (match intsOfD ds with
    | some k => some (i :: k)
    | none => none)
  | _ :: _ => none
theorem intsOfD_map (k : List Int) : tupsOf.intsOfD (k.map cI.e) = some k := by
  induction k with
  | nil => rfl
  | cons x k ih => show (match tupsOf.intsOfD (k.map cI.e) with | some k => some (x :: k) | none => none) = _; rw [ih]
theorem intsOfD_inv : ∀ {xs : List D} {k : List Int}, tupsOf.intsOfD xs = some k → xs = k.map cI.e
  | [], k, h => by cases h; rfl
  | .int i :: ds, k, h => by
    unfold tupsOf.intsOfD at h
    cases e : tupsOf.intsOfD ds with
    | none => rw [e] at h; cases h
    | some k' => rw [e] at h; cases h; rw [intsOfD_inv e]; rfl
  | .non :: _, _, h => by cases h
  | .bl _ :: _, _, h => by cases h
  | .str _ :: _, _, h => by cases h
  | .nd _ _ :: _, _, h => by cases h
theorem tupsOf_map (ks : List (List Int)) : tupsOf (ks.map (cT cI).e) = some ks := by
  induction ks with
  | nil => rfl
  | cons k ks ih => show (match tupsOf.intsOfD (k.map cI.e), tupsOf (ks.map (cT cI).e) with | some k, some ks => some (k :: ks) | _, _ => none) = _; rw [ih, intsOfD_map]
theorem tupsOf_inv : ∀ {xs : List D} {ks : List (List Int)}, tupsOf xs = some ks → xs = ks.map (cT cI).e
  | [], ks, h => by cases h; rfl
  | .nd .tup ys :: ds, ks, h => by
    unfold tupsOf at h
    cases e1 : tupsOf.intsOfD ys with
    | none => rw [e1] at h; cases h
    | some k =>
      cases e2 : tupsOf ds with
      | none => rw [e1, e2] at h; cases h
      | some ks' => rw [e1, e2] at h; cases h; rw [tupsOf_inv e2, intsOfD_inv e1]; rfl
  | .nd (.lst _) _ :: _, _, h => by cases h
  | .nd (.dic _ _) _ :: _, _, h => by cases h
  | .int _ :: _, _, h => by cases h
  | .non :: _, _, h => by cases h
  | .bl _ :: _, _, h => by cases h
  | .str _ :: _, _, h => by cases h
theorem outs_eq : ∀ {out : List Value} {L' : List (Addr × List Int)}, EachIs (fun (v : Value) (q : Addr × List Int) => v = .ref q.1) out L' → out = L'.map fun q => Value.ref q.1
  | _, _, .nil => rfl
  | _, _, .cons h t => by rw [List.map_cons, h, outs_eq t]
theorem cr_sortedU {X : Cx} {k : Nat} (hc : X.calm = true) (hr : Room k X.A) : CallR X (.builtin "sorted") (fun vs H Q => ∃ (a : Addr) (L : List (Addr × List Int)), vs = [.ref a] ∧ H a = some (SetTO X.prog X.w a L) ∧ (∀ p ∈ L, SqT X.K H p.1 (p.2.map V.int)) ∧
  ∀ (L1 : List (Addr × List Int)) (L' : List (Addr × List Int)) (p : Addr), L1.Perm L → (L1.map (·.2)).Nodup → L' = L1.mergeSort (dataLe false fun q => tupPy q.2) → H p = none → Q (.ref p) (upd H p (.lst (L'.map fun q => V.ref q.1)))) := by
  intro pins s σ H vs us Q I r h
  obtain ⟨a, L, rfl, ha, hk, q⟩ := h
  have R0 : SetT0 X.prog X.w s.heap a L := (I.hok a _ ha).1
  obtain ⟨es, ep, t, R⟩ := R0.full fun p hp => I.isT (hk p hp)
  rw [Vals.ref1 r]
  have hu := hr.un
  refine sorted_setU R (I.ok.hd hc) (by omega) fun s' p out c L1 k g o hp hg pm eo => ?_
  have hl : (L1.mergeSort (dataLe false fun q => tupPy q.2)).length = L.length := by rw [List.length_mergeSort, pm.length_eq]
  have hfew : L.length < 64 := R.few
  have hlen : ((L1.mergeSort (dataLe false fun q => tupPy q.2)).map fun q => V.ref q.1).length ≤ sizeLine := by rw [List.length_map, hl, sizeLine_eq]; omega
  have hn : H p = none := I.hok.fresh hp
  have hv : Vals ((L1.mergeSort (dataLe false fun q => tupPy q.2)).map fun q => V.ref q.1) out.toList := by rw [outs_eq eo]; exact vals_of_refs _
  have J : Inv X pins σ (upd H p (.lst ((L1.mergeSort (dataLe false fun q => tupPy q.2)).map fun q => V.ref q.1))) { s with heap := s'.heap, gens := s'.gens, drawn := s'.drawn, toks := s'.toks } :=
    I.call (ch := []) (Un.laid k hp hn) (I.hok.laid k hp ⟨hlen, out.toList, c, hv, hg⟩) (by rw [g]; exact I.bare) (fun _ z => nomatch z)
  have e : s' = { s with heap := s'.heap, gens := s'.gens, drawn := s'.drawn, toks := s'.toks } := by
    cases s'
    cases s
    cases o
    rfl
  rw [e]
  exact ⟨.ref p, _, J, rfl, q L1 _ p pm ((pm.map (·.2)).nodup_iff.mpr R.nd) rfl hn⟩
end EE

/-! layer E, part UB: set(t) of a tuple -/
namespace EE
open PySem PySem.Spec PySem.Calls
open PyProof.Rows hiding St
open L2
open PySem.W (dataLe dataLt AllAlike Sortable SortsAt EachIs)
/-- a new, empty set -/
abbrev set0 (w : World) : Obj := { cls := .type "set", dict := none, data := .set #[] 0 (.fresh 0 0 (!w.params.followText "set-order")) }
abbrev it0 (l : Addr) : Obj := { cls := .type "tuple_iterator", data := .fields #[.ref l, .int 0 0] }
section
variable {P : Program} {w : World} {A : Around} {E : Value → Shared → Prop} {s : Shared}
theorem old_in {h : Heap} {o1 o2 : Obj} {b : Addr} {o : Obj} (e : h.get? b = some o) : ((h.push o1).push o2).get? b = some o := Heap.get?_push_of_some _ (Heap.get?_push_of_some _ e)
theorem gone_at {h : Heap} {b : Addr} (hb : h.objs.size ≤ b) : h.get? b = none := by
  cases q : h.get? b with
  | none => rfl
  | some o => exact absurd (Nat.lt_of_lt_of_le (Heap.lt_size q) hb) (Nat.lt_irrefl _)
set_option maxHeartbeats 6400000 in
/-- set(t): what its loop leaves -/
theorem call_set_tupG {l : Addr} {items : Array Value} {Q : Value → Shared → Prop} (Po : Shared → Prop) (hh : A.handled = none) (hl : s.heap.IsTuple l items)
    (lp : ∀ (B : Around) (R : Result → Shared → Prop) (s2 : Shared), B.in1.handled = none → B.in1.units ≤ A.units + 4 → s2 = { s with heap := (s.heap.push (set0 w)).push (it0 l) } → (∀ s3, Po s3 → R (.ok (.ret .none)) s3) →
      codeAny (model P w) B (.builtin "set.update.loop" ⟨[.ref s.heap.objs.size, .ref (s.heap.objs.size + 1)], []⟩) R s2)
    (h : ∀ s3, Po s3 → Q (.ref s.heap.objs.size) s3) : wpAny (model P w) A (call (.type "set") [.ref l]) Q E s := by
  obtain ⟨c, tl, hmro⟩ := F.called_set.mro
  have m1 := F.called_set.made
  have m2 := F.called_set.sub
  have m3 := F.called_set.notType
  have m4 := F.called_set.canCreate
  have m5 := F.typeCall_set_1 (.ref l)
  refine wpAny_call (codeAny_of_tree ?_)
  show wpAny _ _ (callAny (.type "set") _) _ _ _
  refine wpAny_pure ⟨Code.quiet_builtin _ (by decide +kernel), codeAny_builtin F.entry_type_call ?_⟩
  rw [Around.under_plain (weight_type_call_type "set" [.ref l] []) rfl]
  repeat (any_goals (first | assumption | wp_step))
  refine codeAny_mono (code_set_led1 (.ref l) (E := E) (Q₁ := fun ob t1 => ob = .ref s.heap.objs.size ∧ t1 = { s with heap := s.heap.push (set0 w) }) ⟨rfl, rfl⟩) fun r t1 hr => ?_
  cases r with
  | error e => exact hr
  | ok fl =>
    cases fl with
    | ret ob =>
      obtain ⟨rfl, rfl⟩ := hr
      have hS : (s.heap.push (set0 w)).get? s.heap.objs.size = some (set0 w) := Heap.get?_push_size _ rfl
      have hT : Shared.TypeIs { s with heap := s.heap.push (set0 w) } (.ref s.heap.objs.size) "set" := ⟨_, hS, rfl⟩
      have n1 := F.called_set.init.lookup
      have n2 := F.called_set.init.bind (.ref s.heap.objs.size)
      repeat (any_goals (first | assumption | wp_step))
      refine codeAny_mono (codeAny_call_builtin (R := wants (fun r t2 => r = .none ∧ Po t2) E) F.called_set.init.plain F.entry_set_init (check_set_init_1 hT ?_)) fun r2 t2 hr2 => ?_
      · obtain ⟨ol, hol, hcl, nl, hdl⟩ := hl
        obtain ⟨ocls, odict, odata, oslots⟩ := ol
        simp only at hcl hdl
        subst hcl; subst hdl
        have hol' : (s.heap.push (set0 w)).get? l = some { cls := .type "tuple", dict := odict, data := .seq items nl, slots := oslots } := Heap.get?_push_of_some _ hol
        have z1 := F.sub_tuple_set
        have z2 := F.sub_tuple_frozenset
        have z3 : (Value.type "tuple" == Value.type "dict") = false := by decide
        have hl1 : (s.heap.push (set0 w)).IsTuple l items := ⟨_, hol', rfl, nl, rfl⟩
        unfold Builtin.«set.__init__» noKeywords Builtin.Frozenset.updateFrom
        generalize hPI : pyIter = PI
        wp_walk
        subst hPI
        refine wpAny_pyIter_tuple hl1 ?_
        refine wpAny_bind (wpAny_runValue ?_)
        have hz1 : (s.heap.push (set0 w)).objs.size = s.heap.objs.size + 1 := Heap.size_push ..
        rw [hz1]
        refine lp _ _ _ (by simp [hh]) (by show A.units + 1 + 1 + 1 ≤ A.units + 4; omega) rfl fun s3 p3 => ?_
        show wpAny _ _ _ _ _ _
        refine wpAny_pure ?_
        show wpAny _ _ (ret Value.none) _ _ _
        exact wpAny_pure ⟨rfl, p3⟩
      · cases r2 with
        | error e => exact hr2
        | ok fl2 =>
          cases fl2 with
          | ret r =>
            obtain ⟨rfl, hp⟩ := hr2
            repeat (any_goals (first | assumption | wp_step))
            exact h _ hp
          | _ => exact hr2.elim
    | _ => exact hr.elim
/-- set(t) of tuples of ints -/
theorem call_set_tt {l : Addr} {items : Array Value} (ks : List (Addr × List Int)) {Q : Value → Shared → Prop} (hh : A.handled = none) (hl : s.heap.IsTuple l items) (hit : items.toList = ks.map fun p => Value.ref p.1)
    (hk : ∀ p ∈ ks, IsT P w s.heap p.2 p.1) (hfew : ks.length < 64) (hu : A.units + 10 < cLine)
    (h : ∀ (h' : Heap) (tk : Nat) L es ep t, SetTR P w h' s.heap.objs.size L es ep t → Got ks ks.length L → (∀ b o, s.heap.get? b = some o → h'.get? b = some o) → Q (.ref s.heap.objs.size) { s with heap := h', toks := tk }) :
    wpAny (model P w) A (call (.type "set") [.ref l]) Q E s := by
  have hisz : items.size = ks.length := by
    rw [← Array.length_toList, hit, List.length_map]
  have hz1 : (s.heap.push (set0 w)).objs.size = s.heap.objs.size + 1 := Heap.size_push ..
  have hlS : l < s.heap.objs.size := by
    obtain ⟨o, ho, _⟩ := id hl
    exact Heap.lt_size ho
  refine call_set_tupG (fun s3 => ∃ h' tk L es ep t, s3 = { s with heap := h', toks := tk } ∧ SetTR P w h' s.heap.objs.size L es ep t ∧ Got ks ks.length L ∧ ∀ b o, s.heap.get? b = some o → h'.get? b = some o) hh hl (fun B R s2 hB hBu es2 hR => ?_) fun s3 ⟨h', tk, L, es, ep, t, e, r, g, k⟩ => by rw [e]; exact h h' tk L es ep t r g k
  subst es2
  have hval : ∀ (i : Nat) (v : Value), items[i]? = some v → ∃ p, ks[i]? = some p ∧ v = .ref p.1 := fun i v hv => by
    have q : items.toList[i]? = some v := by rw [Array.getElem?_toList]; exact hv
    rw [hit, List.getElem?_map] at q
    cases hq : ks[i]? with
    | none => rw [hq] at q; cases q
    | some p =>
      rw [hq] at q
      exact ⟨p, rfl, (Option.some.inj q).symm⟩
  have hS : (s.heap.push (set0 w)).get? s.heap.objs.size = some (set0 w) := Heap.get?_push_size _ rfl
  have hl1 : (s.heap.push (set0 w)).IsTuple l items := hl.push _
  have hit0 : ((s.heap.push (set0 w)).push (it0 l)).get? (s.heap.objs.size + 1) = some (it0 l) := by rw [← hz1]; exact Heap.get?_push_size _ rfl
  refine set_update_tups (A := B) ((Walks.tuple hB (s.heap.objs.size + 1) l (Nat.ne_of_lt (Nat.lt_succ_of_lt hlS)) items).toS) s.heap.objs.size (by
      simp only [List.mem_cons, List.not_mem_nil, or_false, not_or]
      exact ⟨Nat.ne_of_lt (Nat.lt_succ_self _), Nat.ne_of_gt hlS⟩) ks hisz hfew hval s.heap hk (gone_at (Nat.le_refl _)) (fun b hb => gone_at (by rw [List.mem_singleton.mp hb]; exact Nat.le_succ _)) (by omega) (items.size - 0) 0 _ rfl (Nat.zero_le _)
    ⟨⟨_, hit0, rfl, rfl⟩, hl1.push _⟩ (fun b o e => old_in e) ⟨[], #[], 0, _, setTR_fresh (Heap.get?_push_of_some _ hS), Got.zero ks⟩ fun s' L es ep t hm hS' g' hkp => hR _ ?_
  obtain ⟨h', g2, d', tk', os'⟩ := s'
  have eg : g2 = s.gens := hm.gens
  have ed : d' = s.drawn := hm.drawn
  have eo : os' = s.os := hm.os
  subst eg; subst ed; subst eo
  rw [hisz] at g'
  exact ⟨h', tk', L, es, ep, t, rfl, hS', g', hkp⟩
end
/-- set(xs), xs a list or a tuple of tuples of ints -/
def rSetOfA (K : PySem.W.Frag) (P : Program) (w : World) : List V → Hp → VK → Prop := fun xs H Q => ∃ (l : Addr) (ks : List (Addr × List Int)), xs = [V.ref l] ∧ (SqL K H l (ks.map fun p => V.ref p.1) ∨ SqT K H l (ks.map fun p => V.ref p.1)) ∧ (∀ p ∈ ks, SqT K H p.1 (p.2.map V.int)) ∧ ks.length < 64 ∧
  ∀ a L, H a = none → (∀ p ∈ L, p ∈ ks) → (∀ p ∈ ks, p.2 ∈ L.map (·.2)) → Q (.ref a) (upd H a (SetTO P w a L))
theorem cr_setOfA {X : Cx} {k : Nat} (hc : X.calm = true) (hr : Room k X.A) : CallR X (.type "set") (rSetOfA X.K X.prog X.w) := by
  have hu := hr.un
  intro pins s σ H xs us Q I r h
  obtain ⟨l, ks, e, hl, hk, hf, q⟩ := h
  rcases hl with hl | hl
  · exact cr_setOfT hc (by omega) pins s σ H xs us Q I r ⟨l, ks, e, hl, hk, hf, q⟩
  · subst e
    rw [Vals.ref1 r]
    obtain ⟨its, rv, pl, hz⟩ := I.tuple hl
    have hn : H s.heap.objs.size = none := I.hok.fresh (Nat.le_refl _)
    refine call_set_tt (P := X.prog) (w := X.w) ks (I.ok.hd hc) pl (by simpa using refs_of_vals rv) (fun p hp => I.isT (hk p hp)) hf (by omega) fun h' tk L es ep t R g k => ?_
    refine ⟨.ref s.heap.objs.size, upd H s.heap.objs.size (SetTO X.prog X.w s.heap.objs.size L), I.laid (t' := tk) k (Nat.le_refl _) (setTO_new R.t0), rfl, q _ L hn (fun p hp => ?_) fun p hp => ?_⟩
    · exact List.mem_of_mem_take (g.sub p hp)
    · exact g.all p (by rw [List.take_length]; exact hp)
/-- sorted(set(xs)), xs a list of fewer than 64 tuples of ints -/
noncomputable def sSetT (ds : List D) : Option D := match ds with
  | [d] => (match seqOf d with
    | some xs => (match tupsOf xs with
      | some ks => if ks.length < 64 then some (oL (cT cI).e (sset (cT cI) ks)) else none
      | none => none)
    | none => none)
  | _ => none
def rSetSorted (K : PySem.W.Frag) (P : Program) (w : World) : List V → Hp → VK → Prop := fun vs H Q => rSetOfA K P w vs H fun v H2 => ∃ (a : Addr) (L : List (Addr × List Int)), [v] = [.ref a] ∧ H2 a = some (SetTO P w a L) ∧ (∀ p ∈ L, SqT K H2 p.1 (p.2.map V.int)) ∧
  ∀ (L1 : List (Addr × List Int)) (L' : List (Addr × List Int)) (p : Addr), L1.Perm L → (L1.map (·.2)).Nodup → L' = L1.mergeSort (dataLe false fun q => tupPy q.2) → H2 p = none → Q (.ref p) (upd H2 p (.lst (L'.map fun q => V.ref q.1)))
theorem r_setT {K : PySem.W.Frag} {P : Program} {w : World} (vs : List V) (H : Hp) (Q : VK) (h : rSemL K sSetT vs H Q) : rSetSorted K P w vs H Q := by
  obtain ⟨ds, z, hr, hz, q⟩ := h
  unfold sSetT at hz
  split at hz
  · rename_i d
    obtain ⟨v, g, rfl, w0⟩ := hr.one
    split at hz
    · rename_i xs hxs
      split at hz
      · rename_i ks hks
        split at hz
        · rename_i hlt
          cases hz
          have hx := tupsOf_inv hks
          obtain ⟨a, us, rfl, h1, h2, h3⟩ := w0.seq hxs
          rw [hx] at h2 h3
          rw [List.length_map] at h2
          -- the items with their addresses
          have hks' : ∃ ps : List (Addr × List Int), us = ps.map (fun p => V.ref p.1) ∧ ps.map (·.2) = ks ∧ ∀ p ∈ ps, SqT K H p.1 (p.2.map V.int) := by
            clear hlt h1 hks hx q
            induction us generalizing ks with
            | nil => cases ks with | nil => exact ⟨[], rfl, rfl, fun p hp => nomatch hp⟩ | cons k ks => cases h2
            | cons u us ih =>
              cases ks with
              | nil => cases h2
              | cons k ks =>
                obtain ⟨g0, w1⟩ := h3 0 u _ rfl rfl
                obtain ⟨b, rfl, hb⟩ := fz_ints w1
                obtain ⟨ps, e1, e2, e3⟩ := ih ks (by simpa using h2) (fun i v d a b => h3 (i + 1) v d (by simpa using a) (by simpa using b))
                exact ⟨(b, k) :: ps, by rw [e1]; rfl, by rw [List.map_cons, e2], fun p hp => by
                  rcases List.mem_cons.mp hp with rfl | hp
                  · exact hb
                  · exact e3 p hp⟩
          obtain ⟨ps, e1, e2, e3⟩ := hks'
          refine ⟨a, ps, rfl, by rw [← e1]; exact h1, e3, by rw [← List.length_map (f := (·.2)), e2]; exact hlt, fun b L nb hL1 hL2 => ?_⟩
          have k1 : ∀ c o, H c = some o → upd H b (SetTO P w b L) c = some o := upd_keeps nb
          refine ⟨b, L, rfl, upd_same, fun p hp => SqT.stay (e3 p (hL1 p hp)) fun c o e _ => k1 c o e, fun L1 L' p pm n1 eL np => ?_⟩
          have k2 := upd_keeps (o := .lst (L'.map fun q => V.ref q.1)) np
          have hval : L'.map (·.2) = sset (cT cI) ks := by
            have pmL : L'.Perm L1 := by rw [eL]; exact List.mergeSort_perm _ _
            refine (sset_unique (anti_of (so_T so_I)) ?_ ?_ fun x => ?_).symm
            · exact ((pmL.map (·.2)).nodup_iff).mpr n1
            · rw [eL, List.pairwise_map]
              refine (List.pairwise_mergeSort (le := dataLe false fun q : Addr × List Int => tupPy q.2) (fun a b c => (PySem.W.sortLe_total _ false _).trans _ _ _) (fun a b => by
                rw [Bool.or_eq_true]; exact (PySem.W.sortLe_total _ false _).total _ _) L1).imp fun {q r} hq => ?_
              show dataLe false toPy _ _ = true
              have : dataLe false toPy ((cT cI).e q.2) ((cT cI).e r.2) = dataLe false (fun q : Addr × List Int => tupPy q.2) q r := by
                show PySem.W.sortLe _ false _ _ _ = PySem.W.sortLe _ false _ _ _
                unfold PySem.W.sortLe
                dsimp only
                rw [em_tup, em_tup]
              rw [this]; exact hq
            · have m1 : x ∈ L'.map (·.2) ↔ x ∈ L.map (·.2) := ((pmL.trans pm).map (·.2)).mem_iff
              rw [m1]
              constructor
              · intro hx
                rw [← e2] at hx
                obtain ⟨p0, hp0, rfl⟩ := List.mem_map.mp hx
                exact hL2 p0 hp0
              · intro hx
                obtain ⟨p0, hp0, rfl⟩ := List.mem_map.mp hx
                rw [← e2]
                exact List.mem_map.mpr ⟨p0, hL1 p0 hp0, rfl⟩
          have mem : ∀ p0 ∈ L', p0 ∈ ps := fun p0 h0 => hL1 p0 (pm.subset (by rw [eL] at h0; exact List.mem_mergeSort.mp h0))
          refine q (.ref p) _ [p] (fun c o e => k2 c o (k1 c o e)) ?_ (by simp) (fun c hc => ?_)
          · rw [← hval, oL, List.map_map]
            have hfl : [p] = p :: (List.replicate L'.length ([] : List Addr)).flatten := by rw [List.flatten_replicate_nil]
            rw [hfl]
            refine .nd (k := .lst true) (show OwAt _ p (.lst true) _ from upd_same) (by simp) (by simp) fun i v d f e1' e2' e3' => ?_
            have hf : f = [] := List.eq_of_mem_replicate (List.mem_of_getElem? e3')
            subst hf
            rw [List.getElem?_map] at e1' e2'
            cases ei : L'[i]? with
            | none => rw [ei] at e1'; cases e1'
            | some p0 =>
              rw [ei] at e1' e2'
              cases e1'; cases e2'
              have hp0 := mem p0 (List.mem_of_getElem? ei)
              exact .fz (ints_fz (SqT.stay (e3 p0 hp0) fun c o e _ => k2 c o (k1 c o e)))
          · have : c = p := by simpa using hc
            subst this
            cases hH : H c with
            | none => rfl
            | some o => rw [k1 c o hH] at np; cases np
        · cases hz
      · cases hz
    · cases hz
  · cases hz
theorem x_setT {X : Cx} {Γ : Ct} {k : Nat} {a : Expr} {fs : FA} {p p2 pos pos2 : Pos} (f : Fit X Γ) (hr : Room k X.A) (hg : Gl X "sorted") (hm : X.mg "sorted" = none) (hg2 : Gl X "set") (hm2 : X.mg "set" = none) (ha : XA' X Γ [a] fs)
    (na : starEach [a] X.env = (false, eval a X.env) :: starEach [] X.env := by rfl)
    (na2 : starEach [.Call (.Name "set" p2) [a] [] pos2] X.env = (false, eval (.Call (.Name "set" p2) [a] [] pos2) X.env) :: starEach [] X.env := by rfl) : XE' X Γ (.Call (.Name "sorted" p) [.Call (.Name "set" p2) [a] [] pos2] [] pos) (fCall sSetT fs) := by
  have h1 := pe_callTy (p := p2) (pos := pos2) (cr_setOfA f.calm hr) hg2 hm2 (by decide +kernel) ha (he := na)
  have h2 := pe_callB (p := p) (pos := pos) (cr_sortedU f.calm hr) hg hm (by decide +kernel) (pa_cons h1 pa_nil na2) (he := na2)
  refine PE.imp h2 fun σ H Q h => ?_
  exact call_go (r := rSetSorted X.K X.prog X.w) (by rw [f.K]; exact r_setT) σ H Q h
end EE

/-! layer T, part UC: sets, typed -/
namespace EE
open PySem PySem.Spec
open PyProof.Rows hiding St
open L2
/-- things that lie as tuples of ints -/
structure Se {α : Type} (c : Cd α) where
  f : α → List Int
  e : ∀ a, c.e a = (cT cI).e (f a)
theorem Se.inj {α : Type} {c : Cd α} (h : Se c) {a b : α} (e : h.f a = h.f b) : a = b := by
  apply (c.inj a b).mp
  rw [h.e, h.e, e]
  exact ((cT cI).inj _ _).mpr rfl
def se_T : Se (cT cI) := ⟨id, fun _ => rfl⟩
def se_2 : Se (c2 cI cI) := ⟨fun p => [p.1, p.2], fun _ => rfl⟩
def se_3 : Se (c3 cI cI cI) := ⟨fun p => [p.1, p.2.1, p.2.2], fun _ => rfl⟩
theorem dd_map {α β : Type} [DecidableEq α] [DecidableEq β] (f : α → β) (hf : ∀ a b, f a = f b → a = b) : ∀ xs : List α, dd (xs.map f) = (dd xs).map f
  | [] => rfl
  | x :: xs => by
    rw [List.map_cons, dd, dd, dd_map f hf xs]
    by_cases h : x ∈ dd xs
    · rw [if_pos h, if_pos (List.mem_map_of_mem h)]
    · rw [if_neg h, if_neg fun z => ?_]
      · rfl
      · obtain ⟨y, hy, e⟩ := List.mem_map.mp z
        exact h (hf _ _ e ▸ hy)
theorem sset_se {α : Type} [DecidableEq α] {c : Cd α} (h : Se c) (xs : List α) : (sset (cT cI) (xs.map h.f)).map (cT cI).e = (sset c xs).map c.e := by
  unfold sset
  rw [dd_map h.f fun a b e => h.inj e, ← srt_map, ← srt_map, List.map_map]
  congr 1
  exact List.map_congr_left fun a _ => (h.e a).symm
theorem o_sset {α : Type} [DecidableEq α] {c : Cd α} (h : Se c) {d : D} {xs : List α} (hd : seqOf d = some (xs.map c.e)) (hl : xs.length < 64) : sSetT [d] = some (oL c.e (sset c xs)) := by
  have e : xs.map c.e = (xs.map h.f).map (cT cI).e := by
    rw [List.map_map]
    exact List.map_congr_left fun a _ => h.e a
  unfold sSetT
  dsimp only
  rw [hd]
  dsimp only
  rw [e, tupsOf_map]
  dsimp only
  rw [List.length_map, if_pos hl, oL, oL, sset_se]
end EE

/-! layer E, part UD: a slot's own list is frozen behind a statement -/
namespace EE
open PySem PySem.Spec
open PyProof.Rows hiding St
open L2
theorem EnvR.freeze {X : Cx} {A : Nat → Addr} {pins : List (Addr × Obj)} {σ : L2.St} {s : Shared} {H : Hp} {ρ : Rho} {F : Fp} {i : Nat} {d : D} (e1 : EnvR X.K A σ H ρ F) (I : Inv X pins σ H s) (hd : ρ[i]? = some (.dt d)) :
    ∃ H2, Inv X pins σ H2 s ∧ EnvR X.K A σ H2 (ρ.set i (.dt d.frz)) (F.put i []) ∧ Stp H (fsS F) H2 (fsS (F.put i [])) := by
  obtain ⟨v, hv, w⟩ := e1.rep i _ d hd rfl
  obtain ⟨H2, I2, k2, l2⟩ := lockAll (F i) H I w.mut
  have kf : ∀ b o, H b = some o → Fix o → H2 b = some o := fun b o eo x => by
    rw [k2 b fun z => e1.notFix eo x ⟨i, z⟩]; exact eo
  have wz := w.frz kf l2
  have hi := (List.getElem?_eq_some_iff.mp hd).1
  refine ⟨H2, I2, ⟨fun j s x h3 h4 => ?_, fun j x h3 => ?_, fun j a ha => ?_, fun j => ?_, fun j k a h3 h4 => ?_, by rw [List.length_set]; exact e1.len⟩, ⟨fun b o eo n => ?_, fun b z => .inr ((Fp.put_sub z).elim id fun z => nomatch z)⟩⟩
  · by_cases hj : j = i
    · subst hj
      rw [List.getElem?_set_self hi] at h3
      cases h3; cases h4
      rw [Fp.put_same]
      exact ⟨v, hv, .fz wz⟩
    · rw [List.getElem?_set_ne (Ne.symm hj)] at h3
      rw [Fp.put_ne hj]
      obtain ⟨u, hu, wu⟩ := e1.rep j s x h3 h4
      refine ⟨u, hu, wu.stay fun b o eo z => ?_⟩
      rcases z with z | z
      · exact kf b o eo z
      · rw [k2 b fun z' => hj (e1.dj j i b z z')]; exact eo
  · by_cases hj : j = i
    · subst hj
      rw [List.getElem?_set_self hi] at h3
      cases h3
    · rw [List.getElem?_set_ne (Ne.symm hj)] at h3
      exact e1.io j x h3
  · by_cases hj : j = i
    · subst hj; rw [Fp.put_same] at ha; cases ha
    · rw [Fp.put_ne hj] at ha
      rw [List.getElem?_set_ne (Ne.symm hj)]
      exact e1.emp j a ha
  · by_cases hj : j = i
    · subst hj; rw [Fp.put_same]; exact List.nodup_nil
    · rw [Fp.put_ne hj]; exact e1.nd j
  · by_cases hj : j = i
    · subst hj; rw [Fp.put_same] at h3; cases h3
    · rw [Fp.put_ne hj] at h3
      by_cases hk : k = i
      · subst hk; rw [Fp.put_same] at h4; cases h4
      · rw [Fp.put_ne hk] at h4
        exact e1.dj j k a h3 h4
  · rw [k2 b fun z => n ⟨i, z⟩]; exact eo
def frzS (i : Nat) : FS := fun ρ => match ρ[i]? with
  | some (.dt d) => .ok .nx (ρ.set i (.dt d.frz))
  | _ => .no
theorem s_frz {X : Cx} {Γ : Ct} {st : Stmt} {f : FS} (i : Nat) (hK : Γ.K = X.K) (h : XS' X Γ st f) : XS' X Γ st (fSeq f (frzS i)) := by
  refine ⟨fun pins s σ H D I h0 => ?_⟩
  obtain ⟨ρ, A, F, e, h0⟩ := h0
  refine thn (h.run pins s σ H { D with nx := fun σ' H' => ∃ ρ1 F1 d, EnvR Γ.K A σ' H' ρ1 F1 ∧ Stp H (fsS F) H' (fsS F1) ∧ ρ1[i]? = some (.dt d) ∧ ∀ H2 F2, EnvR Γ.K A σ' H2 (ρ1.set i (.dt d.frz)) F2 → Stp H (fsS F) H2 (fsS F2) → D.nx σ' H2 } I ⟨ρ, A, F, e, ?_⟩) fun fl s1 q => ?_
  · unfold fSeq at h0
    cases ho : f ρ with
    | no => rw [ho] at h0; exact h0
    | err c fs ρ1 => rw [ho] at h0; exact h0
    | ok r ρ1 =>
      rw [ho] at h0
      cases r with
      | bk => exact h0
      | ct => exact h0
      | rt d => exact h0
      | nx =>
        intro σ1 H1 F1 e1 st1
        rw [sq_nx] at h0
        unfold frzS at h0
        split at h0
        · rename_i d hd
          exact ⟨ρ1, F1, d, e1, st1, hd, fun H2 F2 e2 st2 => h0 σ1 H2 F2 e2 st2⟩
        · exact False.elim h0
  · unfold SP at q ⊢
    cases fl with
    | brk => exact q
    | cont => exact q
    | ret u => exact q
    | next =>
      obtain ⟨σ1, H1, I1, ρ1, F1, d, e1, st1, hd, k⟩ := q
      rw [hK] at e1
      obtain ⟨H2, I2, e2, st2⟩ := e1.freeze I1 hd
      exact ⟨σ1, H2, I2, k H2 _ (by rw [hK]; exact e2) (st1.trans st2)⟩
theorem js_frz {Γ : Env} {rest : FS} {P : Fl → Rho → Prop} {i : Nat} {d z : D} (hd : Γ[i]? = some (some (.dt d))) (hz : d.frz = z) (hr : JS (Γ.set i (some (.dt z))) rest P) : JS Γ (fSeq (frzS i) rest) P := fun ρ s => by
  subst hz
  obtain ⟨fl, ρ1, e, p⟩ := hr _ (s.put (a := some (.dt d.frz)) rfl i)
  refine ⟨fl, ρ1, ?_, p⟩
  rw [← e]
  unfold fSeq frzS
  rw [s.at hd]; rfl
end EE

/-! three names at once -/
namespace EE
open PySem PySem.Spec
open PyProof.Rows hiding St
open L2
variable {X : Cx} {Γ : Ct}
def par3 (i j l : Nat) (rs : List R) (ρ : Rho) : Out Fl := match valsOf rs with
  | some [d, e, f] => (match gSet i d ρ with
    | .ok _ ρ1 => (match gSet j e ρ1 with
      | .ok _ ρ2 => (match gSet l f ρ2 with
        | .ok _ ρ3 => .ok .nx ρ3
        | _ => .no)
      | _ => .no)
    | _ => .no)
  | _ => .no
def fPar3 (i j l : Nat) (fs : FA) : FS := fun ρ => (fs ρ).bind (par3 i j l)
theorem s_par3 {i j l : Nat} {x y z : Str} {a b c : Expr} {fs : FA} {px py pz pt pos : Pos} {kt k2 pt2} (hc : X.calm = true) (hN : X.N.Nodup) (hi : X.N[i]? = some x) (hj : X.N[j]? = some y) (hl : X.N[l]? = some z) (hij : i ≠ j) (hil : i ≠ l) (hjl : j ≠ l)
    (hx : X.env.scope.names.lookup x = some .local) (hy : X.env.scope.names.lookup y = some .local) (hz : X.env.scope.names.lookup z = some .local) (ha : XA' X Γ [a, b, c] fs)
    (hw : swappedStores [.Tuple [.Name x px, .Name y py, .Name z pz] kt pt] (.Tuple [a, b, c] k2 pt2) X.env = pure (some [x, y, z]))
    (hs : swapsWithSole [.Tuple [.Name x px, .Name y py, .Name z pz] kt pt] (.Tuple [a, b, c] k2 pt2) pos.line X.env = pure false := by rfl) :
    XS' X Γ (.Assign [.Tuple [.Name x px, .Name y py, .Name z pz] kt pt] (.Tuple [a, b, c] k2 pt2) pos) (fPar3 i j l fs) := by
  refine PS.imp (ps_par3 hc hN hi hj hl hij hil hjl hx hy hz ha hw hs) fun D σ H ⟨ρ, A, F, e, h⟩ => ?_
  refine ⟨ρ, A, F, e, Go.bindS h Stp.refl fun rs ρ1 vs H1 F1 g1 _ e1 st1 q1 h1 => ?_⟩
  unfold par3 at h1
  split at h1
  · rename_i d d' d'' hds
    split at h1
    · rename_i u ρ2 hg1
      split at h1
      · rename_i u' ρ3 hg2
        split at h1
        · rename_i u'' ρ4 hg3
          obtain ⟨fs, rfl, l1, l2, nd, dj, c⟩ := q1.vals hds
          match vs, fs, l1, l2 with
          | [v, w, r], [g, g', g''], _, _ =>
            refine ⟨v, w, r, rfl, ?_⟩
            obtain ⟨li, _, rfl⟩ := gSet_ok hg1
            obtain ⟨lj, _, rfl⟩ := gSet_ok hg2
            obtain ⟨ll, _, rfl⟩ := gSet_ok hg3
            simp only [List.flatten_cons, List.flatten_nil, List.append_nil] at nd dj st1
            obtain ⟨n1, n23, n4⟩ := List.nodup_append.mp nd
            obtain ⟨n2, n3, n5⟩ := List.nodup_append.mp n23
            have w1 : Ow Γ.K H1 v d g := c 0 _ _ _ rfl rfl rfl
            have w2 : Ow Γ.K H1 w d' g' := c 1 _ _ _ rfl rfl rfl
            have w3 : Ow Γ.K H1 r d'' g'' := c 2 _ _ _ rfl rfl rfl
            have e2 := e1.put (σ' := σ.set i (some v)) (s' := .dt d) (d := d) li (List.getElem?_set_self (by rw [← e1.len]; exact li)) (fun k hk => List.getElem?_set_ne (Ne.symm hk)) rfl w1 n1 (fun a ha k _ z => dj a (List.mem_append_left _ ha) ⟨k, z⟩) (fun x z => nomatch z) (by simp)
            have e3 := e2.put (σ' := (σ.set i (some v)).set j (some w)) (s' := .dt d') (d := d') lj (List.getElem?_set_self (by rw [← e2.len]; exact lj)) (fun k hk => List.getElem?_set_ne (Ne.symm hk)) rfl w2 n2 (fun a ha k _ z => by
              rcases Fp.put_sub ⟨k, z⟩ with z | z
              · exact dj a (List.mem_append_right _ (List.mem_append_left _ ha)) z
              · exact n4 a z a (List.mem_append_left _ ha) rfl) (fun x z => nomatch z) (by simp)
            have e4 := e3.put (σ' := ((σ.set i (some v)).set j (some w)).set l (some r)) (s' := .dt d'') (d := d'') ll (List.getElem?_set_self (by rw [← e3.len]; exact ll)) (fun k hk => List.getElem?_set_ne (Ne.symm hk)) rfl w3 n3 (fun a ha k _ z => by
              rcases Fp.put_sub ⟨k, z⟩ with z | z
              · rcases Fp.put_sub z with z | z
                · exact dj a (List.mem_append_right _ (List.mem_append_right _ ha)) z
                · exact n4 a z a (List.mem_append_right _ ha) rfl
              · exact n5 a z a ha rfl) (fun x z => nomatch z) (by simp)
            refine h1 _ H1 _ e4 (st1.sub fun b q => ?_)
            rcases Fp.put_sub q with q | q
            · rcases Fp.put_sub q with q | q
              · rcases Fp.put_sub q with q | q
                · exact .inl q
                · exact .inr (List.mem_append_left _ q)
              · exact .inr (List.mem_append_right _ (List.mem_append_left _ q))
            · exact .inr (List.mem_append_right _ (List.mem_append_right _ q))
        · exact False.elim h1
      · exact False.elim h1
    · exact False.elim h1
  · exact False.elim h1
theorem js_par3 {Γ Γ1 Γ2 Γ3 Γ4 : Env} {rest : FS} {P : Fl → Rho → Prop} {fs : FA} {i j l : Nat} {d e f : D} {rs : List R} (h : JA Γ fs rs Γ1) (hv : valsOf rs = some [d, e, f]) (h1 : JG Γ1 (gSet i) d Γ2) (h2 : JG Γ2 (gSet j) e Γ3) (h3 : JG Γ3 (gSet l) f Γ4) (hr : JS Γ4 rest P) : JS Γ (fSeq (fPar3 i j l fs) rest) P := fun ρ s => by
  obtain ⟨ρ1, e1, s1⟩ := h ρ s
  obtain ⟨ρ2, e2, s2⟩ := h1 ρ1 s1
  obtain ⟨ρ3, e3, s3⟩ := h2 ρ2 s2
  obtain ⟨ρ4, e4, s4⟩ := h3 ρ3 s3
  obtain ⟨fl, ρ5, e5, p⟩ := hr ρ4 s4
  refine ⟨fl, ρ5, ?_, p⟩
  unfold fSeq fPar3
  rw [e1, Out.bind_ok]
  unfold par3
  simp only [hv, e2, e3, e4]
  exact e5
end EE


/-! mathematics of trails: no program in sight -/
namespace TM
open EE

abbrev Pt := List Int
abbrev Wy := List (Int × Int)
def lst (p : Pt) : Int := p.getLastD 0
def nxt (ws : Wy) (p : Pt) : List Pt := (ws.filter fun w => w.1 == lst p && !p.contains w.2).map fun w => p ++ [w.2]
def tr (ws : Wy) (e : Int) : Nat → Pt → List Pt
  | 0, p => if lst p = e then [p] else []
  | k + 1, p => if lst p = e then [p] else (nxt ws p).flatMap (tr ws e k)
def cnt (ws : Wy) (e : Int) : Nat → Pt → Nat
  | 0, _ => 1
  | k + 1, p => if lst p = e then 1 else 1 + ((nxt ws p).map (cnt ws e k)).sum
def trB (ws : Wy) (e : Int) : Nat → Pt → List Pt
  | 0, _ => []
  | k + 1, p => if lst p = e then [p] else (nxt ws p).flatMap (trB ws e k)
theorem lst_app (p : Pt) (x : Int) : lst (p ++ [x]) = x := by simp [lst]
theorem fm_congr {α β : Type} {l : List α} {f g : α → List β} (h : ∀ c ∈ l, f c = g c) : l.flatMap f = l.flatMap g := by
  induction l with
  | nil => rfl
  | cons a l ih => rw [List.flatMap_cons, List.flatMap_cons, h a List.mem_cons_self, ih fun c hc => h c (List.mem_cons_of_mem _ hc)]
theorem trB_eq (ws : Wy) (e : Int) : ∀ (k : Nat) (p : Pt), trB ws e (k + 1) p = tr ws e k p
  | 0, p => by
    unfold trB tr
    have : (nxt ws p).flatMap (trB ws e 0) = [] := by
      rw [List.flatMap_eq_nil_iff]
      intro x _; rfl
    rw [this]
  | k + 1, p => by
    rw [trB, tr]
    have : trB ws e (k + 1) = tr ws e k := funext fun x => trB_eq ws e k x
    rw [this]
theorem nxt_len {ws : Wy} {p q : Pt} (h : q ∈ nxt ws p) : q.length = p.length + 1 := by
  obtain ⟨w, _, rfl⟩ := List.mem_map.mp h
  simp
theorem tr_len {ws : Wy} {e : Int} : ∀ {k : Nat} {p q : Pt}, q ∈ tr ws e k p → p.length ≤ q.length
  | 0, p, q, h => by
    unfold tr at h
    split at h
    · rw [List.mem_singleton.mp h]; exact Nat.le_refl _
    · cases h
  | k + 1, p, q, h => by
    rw [tr] at h
    split at h
    · rw [List.mem_singleton.mp h]; exact Nat.le_refl _
    · obtain ⟨c, hc, hq⟩ := List.mem_flatMap.mp h
      have := tr_len hq
      have := nxt_len hc
      omega
theorem tr_filter (ws : Wy) (e : Int) (m : Nat) : ∀ (k j : Nat) (p : Pt), p.length + j = m + 1 → j ≤ k → (tr ws e k p).filter (fun q => decide (q.length ≤ m + 1)) = tr ws e j p
  | 0, j, p, h1, h2 => by
    have : j = 0 := by omega
    subst this
    unfold tr
    split
    · rw [List.filter_cons_of_pos (by simp; omega)]; rfl
    · rfl
  | k + 1, j, p, h1, h2 => by
    rw [tr]
    by_cases hl : lst p = e
    · rw [if_pos hl, List.filter_cons_of_pos (by simp; omega)]
      cases j with
      | zero => rw [tr, if_pos hl]; rfl
      | succ j => rw [tr, if_pos hl]; rfl
    · rw [if_neg hl]
      cases j with
      | zero =>
        rw [tr, if_neg hl, List.filter_eq_nil_iff]
        intro q hq
        obtain ⟨c, hc, hq⟩ := List.mem_flatMap.mp hq
        have := tr_len hq
        have := nxt_len hc
        simp; omega
      | succ j =>
        rw [tr, if_neg hl, List.filter_flatMap]
        have : ∀ c ∈ nxt ws p, (tr ws e k c).filter (fun q => decide (q.length ≤ m + 1)) = tr ws e j c := fun c hc => tr_filter ws e m k j c (by rw [nxt_len hc]; omega) (by omega)
        exact fm_congr this
/-- no way leads further than there are houses -/
def inR (n : Nat) (p : Pt) : Prop := p.Nodup ∧ ∀ x ∈ p, 0 ≤ x ∧ x < n
theorem inR_len {n : Nat} {p : Pt} (h : inR n p) : p.length ≤ n := by
  have h1 : (p.map Int.toNat).Nodup := by
    refine List.Pairwise.map _ (fun a b hab => ?_) (List.pairwise_iff_forall_sublist.mpr fun {a b} hs => ?_) (R := fun a b : Int => a ≠ b ∧ 0 ≤ a ∧ 0 ≤ b)
    · omega
    · have hm : a ∈ p ∧ b ∈ p := ⟨hs.subset (by simp), hs.subset (by simp)⟩
      refine ⟨?_, (h.2 a hm.1).1, (h.2 b hm.2).1⟩
      have := List.pairwise_iff_forall_sublist.mp h.1 hs
      exact this
  have h2 : ∀ x ∈ p.map Int.toNat, x ∈ List.range n := fun x hx => by
    obtain ⟨y, hy, rfl⟩ := List.mem_map.mp hx
    have := h.2 y hy
    rw [List.mem_range]; omega
  have := List.Nodup.length_le_of_subset h1 h2
  simpa using this
theorem nxt_inR {n : Nat} {ws : Wy} {p c : Pt} (hw : ∀ w ∈ ws, 0 ≤ w.2 ∧ w.2 < n) (h : inR n p) (hc : c ∈ nxt ws p) : inR n c := by
  obtain ⟨w, hw', rfl⟩ := List.mem_map.mp hc
  obtain ⟨h1, h2⟩ := List.mem_filter.mp hw'
  simp only [Bool.and_eq_true, Bool.not_eq_true', List.contains_eq_mem, decide_eq_false_iff_not] at h2
  refine ⟨List.nodup_append.mpr ⟨h.1, by simp, fun a ha b hb q => ?_⟩, fun x hx => ?_⟩
  · rw [List.mem_singleton.mp hb] at q
    exact h2.2 (q ▸ ha)
  · rcases List.mem_append.mp hx with hx | hx
    · exact h.2 x hx
    · rw [List.mem_singleton.mp hx]; exact hw w h1
theorem tr_more {n : Nat} {ws : Wy} {e : Int} (hw : ∀ w ∈ ws, 0 ≤ w.2 ∧ w.2 < n) : ∀ (k : Nat) (p : Pt), inR n p → n ≤ p.length + k → tr ws e (k + 1) p = tr ws e k p
  | 0, p, h, hl => by
    have : nxt ws p = [] := by
      cases hn : nxt ws p with
      | nil => rfl
      | cons c r =>
        have hc : c ∈ nxt ws p := by rw [hn]; exact List.mem_cons_self
        have := inR_len (nxt_inR hw h hc)
        have := nxt_len hc
        omega
    rw [tr, tr, this]; rfl
  | k + 1, p, h, hl => by
    rw [tr]
    conv => rhs; rw [tr]
    have : ∀ c ∈ nxt ws p, tr ws e (k + 1) c = tr ws e k c := fun c hc => tr_more hw k c (nxt_inR hw h hc) (by rw [nxt_len hc]; omega)
    rw [fm_congr this]
theorem tr_short {n m : Nat} {ws : Wy} {e s : Int} (hw : ∀ w ∈ ws, 0 ≤ w.2 ∧ w.2 < n) (hs : 0 ≤ s ∧ s < n) (hm : m ≤ n) : (trB ws e n [s]).filter (fun q => decide (q.length ≤ m + 1)) = tr ws e m [s] := by
  have hn : 0 < n := by omega
  obtain ⟨k, rfl⟩ : ∃ k, n = k + 1 := ⟨n - 1, by omega⟩
  rw [trB_eq]
  by_cases h : m ≤ k
  · exact tr_filter ws e m k m [s] (by simp; omega) h
  · have : m = k + 1 := by omega
    subst this
    rw [← tr_more hw k [s] ⟨by simp, fun x hx => by rw [List.mem_singleton.mp hx]; exact hs⟩ (by simp; omega)]
    exact tr_filter ws e (k + 1) (k + 1) (k + 1) [s] (by simp; omega) (Nat.le_refl _)

def sp (ws : Wy) (h : Int) : List Int := (ws.filter fun w => w.1 == h).map (·.2)

theorem nxt_sp (p : Pt) : ∀ ws : Wy, nxt ws p = ((sp ws (lst p)).filter fun h => !p.contains h).map fun h => p ++ [h]
  | [] => rfl
  | w :: ws => by
    have ih := nxt_sp p ws
    by_cases h1 : (w.1 == lst p) = true
    · have e1 : sp (w :: ws) (lst p) = w.2 :: sp ws (lst p) := by
        unfold sp
        rw [List.filter_cons_of_pos (p := fun w : Int × Int => w.1 == lst p) (l := ws) h1]; rfl
      rw [e1]
      by_cases h2 : p.contains w.2 = true
      · rw [List.filter_cons_of_neg (by rw [h2]; decide), ← ih]
        unfold nxt
        rw [List.filter_cons_of_neg (p := fun w : Int × Int => w.1 == lst p && !p.contains w.2) (l := ws) (by show ¬ (w.1 == lst p && !p.contains w.2) = true; rw [h1, h2]; decide)]
      · have h2' : p.contains w.2 = false := by simpa using h2
        rw [List.filter_cons_of_pos (by rw [h2']; decide), List.map_cons, ← ih]
        unfold nxt
        rw [List.filter_cons_of_pos (p := fun w : Int × Int => w.1 == lst p && !p.contains w.2) (l := ws) (by show (w.1 == lst p && !p.contains w.2) = true; rw [h1, h2']; decide), List.map_cons]
    · have h1' : (w.1 == lst p) = false := by simpa using h1
      have e1 : sp (w :: ws) (lst p) = sp ws (lst p) := by
        unfold sp
        rw [List.filter_cons_of_neg (p := fun w : Int × Int => w.1 == lst p) (l := ws) h1]
      rw [e1, ← ih]
      unfold nxt
      rw [List.filter_cons_of_neg (p := fun w : Int × Int => w.1 == lst p && !p.contains w.2) (l := ws) (by show ¬ (w.1 == lst p && !p.contains w.2) = true; rw [h1']; simp)]

def cn (ws : Wy) (e : Int) (m : Nat) (p : Pt) : Nat := cnt ws e (m + 1 - p.length) p
def tn (ws : Wy) (e : Int) (m : Nat) (p : Pt) : List Pt := tr ws e (m + 1 - p.length) p
theorem cn_pos (ws : Wy) (e : Int) (m : Nat) (p : Pt) : 1 ≤ cn ws e m p := by
  unfold cn
  cases m + 1 - p.length with
  | zero => exact Nat.le_refl 1
  | succ k =>
    rw [cnt]
    split
    · exact Nat.le_refl 1
    · omega
theorem sum_ge (f : Pt → Nat) (h : ∀ p, 1 ≤ f p) : ∀ l : List Pt, l.length ≤ (l.map f).sum
  | [] => Nat.le_refl _
  | p :: l => by
    have := sum_ge f h l
    have := h p
    simp only [List.length_cons, List.map_cons, List.sum_cons]; omega
theorem cn_kids {ws : Wy} {e : Int} {m : Nat} {p : Pt} (h1 : ¬ lst p = e) (h2 : p.length ≤ m) : cn ws e m p = 1 + ((nxt ws p).map (cn ws e m)).sum := by
  obtain ⟨k, hk⟩ : ∃ k, m + 1 - p.length = k + 1 := ⟨m - p.length, by omega⟩
  have : ∀ c ∈ nxt ws p, cnt ws e k c = cn ws e m c := fun c hc => by
    unfold cn
    have := nxt_len hc
    rw [show m + 1 - c.length = k by omega]
  have e1 : cn ws e m p = 1 + ((nxt ws p).map (cnt ws e k)).sum := by
    unfold cn
    rw [hk, cnt, if_neg h1]
  rw [e1, List.map_congr_left this]
theorem tn_kids {ws : Wy} {e : Int} {m : Nat} {p : Pt} (h1 : ¬ lst p = e) (h2 : p.length ≤ m) : tn ws e m p = (nxt ws p).flatMap (tn ws e m) := by
  obtain ⟨k, hk⟩ : ∃ k, m + 1 - p.length = k + 1 := ⟨m - p.length, by omega⟩
  have : ∀ c ∈ nxt ws p, tr ws e k c = tn ws e m c := fun c hc => by
    unfold tn
    have := nxt_len hc
    rw [show m + 1 - c.length = k by omega]
  have e1 : tn ws e m p = (nxt ws p).flatMap (tr ws e k) := by
    unfold tn
    rw [hk, tr, if_neg h1]
  rw [e1, fm_congr this]
theorem tn_end {ws : Wy} {e : Int} {m : Nat} {p : Pt} (h1 : lst p = e) : tn ws e m p = [p] := by
  unfold tn
  cases m + 1 - p.length with
  | zero => rw [tr, if_pos h1]
  | succ k => rw [tr, if_pos h1]
theorem tn_stop {ws : Wy} {e : Int} {m : Nat} {p : Pt} (h1 : ¬ lst p = e) (h2 : ¬ p.length ≤ m) : tn ws e m p = [] := by
  unfold tn
  rw [show m + 1 - p.length = 0 by omega, tr, if_neg h1]
theorem nxt_le (ws : Wy) (p : Pt) : (nxt ws p).length ≤ ws.length := by
  unfold nxt
  rw [List.length_map]; exact List.length_filter_le _ _
theorem snocP : ∀ S : List Pt, S = [] ∨ ∃ S' x, S = S' ++ [x]
  | [] => .inl rfl
  | x :: S => by
    rcases snocP S with rfl | ⟨S', y, rfl⟩
    · exact .inr ⟨[], x, rfl⟩
    · exact .inr ⟨x :: S', y, rfl⟩

def isE (e : Int) (p : Pt) : Bool := lst p == e

def grow (ws : Wy) (e : Int) (rows : List Pt) : List Pt := (rows.filter fun p => !isE e p).flatMap (nxt ws)

theorem grow_len (ws : Wy) (e : Int) (rows : List Pt) : ∀ q ∈ grow ws e rows, ∃ p ∈ rows, q.length = p.length + 1 := fun q hq => by
  obtain ⟨p, hp, hq⟩ := List.mem_flatMap.mp hq
  exact ⟨p, (List.mem_filter.mp hp).1, nxt_len hq⟩
theorem cnt_grow (ws : Wy) (e : Int) (k : Nat) : ∀ rows : List Pt, (rows.filter (isE e)).length + ((grow ws e rows).map (cnt ws e k)).sum ≤ (rows.map (cnt ws e (k + 1))).sum
  | [] => Nat.le_refl _
  | p :: rows => by
    have ih := cnt_grow ws e k rows
    rw [List.map_cons, List.sum_cons, cnt]
    cases hc : isE e p with
    | true =>
      have hc' : lst p = e := by unfold isE at hc; simpa using hc
      have g : grow ws e (p :: rows) = grow ws e rows := by unfold grow; rw [List.filter_cons_of_neg (by rw [hc]; decide)]
      rw [if_pos hc', g, List.filter_cons_of_pos hc, List.length_cons]; omega
    | false =>
      have hc' : ¬ lst p = e := by unfold isE at hc; simpa using hc
      have g : grow ws e (p :: rows) = nxt ws p ++ grow ws e rows := by unfold grow; rw [List.filter_cons_of_pos (by rw [hc]; decide), List.flatMap_cons]
      rw [if_neg hc', g, List.filter_cons_of_neg (by rw [hc]; decide), List.map_append, List.sum_append]; omega
theorem grow_perm (ws : Wy) (e : Int) (k : Nat) : ∀ rows : List Pt, (rows.filter (isE e) ++ (grow ws e rows).flatMap (trB ws e k)).Perm (rows.flatMap (trB ws e (k + 1)))
  | [] => List.Perm.refl _
  | p :: rows => by
    have ih := grow_perm ws e k rows
    rw [List.flatMap_cons, trB]
    cases hc : isE e p with
    | true =>
      have hc' : lst p = e := by unfold isE at hc; simpa using hc
      have g : grow ws e (p :: rows) = grow ws e rows := by unfold grow; rw [List.filter_cons_of_neg (by rw [hc]; decide)]
      rw [if_pos hc', g, List.filter_cons_of_pos hc]
      exact ih.cons p
    | false =>
      have hc' : ¬ lst p = e := by unfold isE at hc; simpa using hc
      have g : grow ws e (p :: rows) = nxt ws p ++ grow ws e rows := by unfold grow; rw [List.filter_cons_of_pos (by rw [hc]; decide), List.flatMap_cons]
      rw [if_neg hc', g, List.filter_cons_of_neg (by rw [hc]; decide), List.flatMap_append]
      refine List.Perm.trans ?_ (ih.append_left _)
      rw [← List.append_assoc, ← List.append_assoc]
      exact List.Perm.append_right _ List.perm_append_comm
theorem cnt_pos (ws : Wy) (e : Int) : ∀ (k : Nat) (p : Pt), 1 ≤ cnt ws e k p
  | 0, _ => Nat.le_refl 1
  | k + 1, p => by rw [cnt]; split <;> omega

/-! bounds by out-degree -/
theorem cnt_le (ws : Wy) (e : Int) (hd : ∀ h, (sp ws h).length ≤ 6) : ∀ (k : Nat) (p : Pt), cnt ws e k p ≤ 7 ^ (k + 1) / 1 - 0 ∧ (tr ws e k p).length ≤ 6 ^ k
  | 0, p => by
    constructor
    · show 1 ≤ 7 ^ 1 / 1 - 0; decide
    · rw [tr]; split <;> simp
  | k + 1, p => by
    have nl : (nxt ws p).length ≤ 6 := by
      rw [nxt_sp, List.length_map]
      exact Nat.le_trans (List.length_filter_le _ _) (hd _)
    have s1 : ∀ l : List Pt, (l.map (cnt ws e k)).sum ≤ l.length * 7 ^ (k + 1) := fun l => by
      induction l with
      | nil => simp
      | cons c l ih =>
        have := (cnt_le ws e hd k c).1
        simp only [List.map_cons, List.sum_cons, List.length_cons, Nat.succ_mul, Nat.div_one, Nat.sub_zero] at this ⊢
        omega
    have s2 : ∀ l : List Pt, (l.flatMap (tr ws e k)).length ≤ l.length * 6 ^ k := fun l => by
      induction l with
      | nil => simp
      | cons c l ih =>
        have := (cnt_le ws e hd k c).2
        simp only [List.flatMap_cons, List.length_append, List.length_cons, Nat.succ_mul]
        omega
    have t1 := s1 (nxt ws p)
    have t2 := s2 (nxt ws p)
    have m1 : (nxt ws p).length * 7 ^ (k + 1) ≤ 6 * 7 ^ (k + 1) := Nat.mul_le_mul_right _ nl
    have m2 : (nxt ws p).length * 6 ^ k ≤ 6 * 6 ^ k := Nat.mul_le_mul_right _ nl
    have p1 : 1 ≤ 7 ^ (k + 1) := Nat.pos_of_ne_zero (by simp)
    have p2 : 1 ≤ 6 ^ (k + 1) := Nat.pos_of_ne_zero (by simp)
    constructor
    · rw [cnt, Nat.div_one, Nat.sub_zero, Nat.pow_succ 7 (k + 1)]
      split <;> omega
    · rw [tr, Nat.pow_succ]
      split
      · rw [Nat.pow_succ] at p2; simpa using p2
      · omega

def rk (mu : Bool) (w : Int × Int) : Int := if mu then min w.1 w.2 * 10 + max w.1 w.2 else w.1 * 10 + w.2
structure Ok (mu : Bool) (n r : Int) (ws : Wy) : Prop where
  nd : ws.Nodup
  rng : ∀ w ∈ ws, (0 ≤ w.1 ∧ w.1 < n) ∧ 0 ≤ w.2 ∧ w.2 < n
  low : ∀ w ∈ ws, rk mu w < r
  len : (ws.length : Int) ≤ 2 * r
theorem Ok.up {mu : Bool} {n r r' : Int} {ws : Wy} (h : Ok mu n r ws) (hr : r ≤ r') : Ok mu n r' ws := ⟨h.nd, h.rng, fun w hw => by have := h.low w hw; omega, by have := h.len; omega⟩
def ext (mu : Bool) (i j : Int) (ws : Wy) : Wy := if mu then ws ++ [(i, j), (j, i)] else ws ++ [(i, j)]
theorem Ok.ext {mu : Bool} {n i j : Int} {ws : Wy} (h : Ok mu n (i * 10 + j) ws) (hi : 0 ≤ i ∧ i < n) (hj : 0 ≤ j ∧ j < n) (hc : if mu then i < j else i ≠ j) : Ok mu n (i * 10 + j + 1) (TM.ext mu i j ws) := by
  have no : ∀ w, rk mu w = i * 10 + j → w ∉ ws := fun w e hw => by have := h.low w hw; omega
  unfold TM.ext
  cases mu with
  | true =>
    have hc : i < j := by simpa using hc
    have r1 : rk true (i, j) = i * 10 + j := by show min i j * 10 + max i j = _; omega
    have r2 : rk true (j, i) = i * 10 + j := by show min j i * 10 + max j i = _; omega
    rw [if_pos rfl]
    refine ⟨List.nodup_append.mpr ⟨h.nd, ?_, fun a ha b hb q => ?_⟩, fun w hw => ?_, fun w hw => ?_, ?_⟩
    · rw [List.nodup_cons]
      refine ⟨fun z => ?_, by simp⟩
      have z := List.mem_singleton.mp z
      injection z with z1 z2
      omega
    · subst q
      simp only [List.mem_cons, List.not_mem_nil, or_false] at hb
      rcases hb with rfl | rfl
      · exact no _ r1 ha
      · exact no _ r2 ha
    · rcases List.mem_append.mp hw with hw | hw
      · exact h.rng w hw
      · simp only [List.mem_cons, List.not_mem_nil, or_false] at hw
        rcases hw with rfl | rfl
        · exact ⟨hi, hj⟩
        · exact ⟨hj, hi⟩
    · rcases List.mem_append.mp hw with hw | hw
      · have := h.low w hw; omega
      · simp only [List.mem_cons, List.not_mem_nil, or_false] at hw
        rcases hw with rfl | rfl
        · rw [r1]; omega
        · rw [r2]; omega
    · have := h.len
      simp only [List.length_append, List.length_cons, List.length_nil]
      omega
  | false =>
    have r1 : rk false (i, j) = i * 10 + j := rfl
    rw [if_neg (by decide)]
    refine ⟨List.nodup_append.mpr ⟨h.nd, by simp, fun a ha b hb q => ?_⟩, fun w hw => ?_, fun w hw => ?_, ?_⟩
    · subst q
      rw [List.mem_singleton.mp hb] at ha
      exact no _ r1 ha
    · rcases List.mem_append.mp hw with hw | hw
      · exact h.rng w hw
      · rw [List.mem_singleton.mp hw]; exact ⟨hi, hj⟩
    · rcases List.mem_append.mp hw with hw | hw
      · have := h.low w hw; omega
      · rw [List.mem_singleton.mp hw, r1]; omega
    · have := h.len
      simp only [List.length_append, List.length_cons, List.length_nil]
      omega

structure NetOk (n : Nat) (ws : Wy) : Prop where
  nd : ws.Nodup
  rng : ∀ w ∈ ws, (0 ≤ w.1 ∧ w.1 < n) ∧ 0 ≤ w.2 ∧ w.2 < n
  len : ws.length < 1000
theorem NetOk.sp {n : Nat} {ws : Wy} (h : NetOk n ws) (x : Int) : (sp ws x).length ≤ n := by
  refine inR_len ⟨?_, fun y hy => ?_⟩
  · unfold TM.sp
    rw [List.nodup_iff_pairwise_ne, List.pairwise_map]
    refine List.Pairwise.imp_of_mem (fun {a b} ha hb q hab => ?_) (List.nodup_iff_pairwise_ne.mp (h.nd.filter _))
    have h1 := (List.mem_filter.mp ha).2
    have h2 := (List.mem_filter.mp hb).2
    have h1 : a.1 = x := by simpa using h1
    have h2 : b.1 = x := by simpa using h2
    exact q (Prod.ext (by rw [h1, h2]) hab)
  · obtain ⟨w, hw, rfl⟩ := List.mem_map.mp hy
    exact (h.rng w (List.mem_filter.mp hw).1).2

theorem Ok.nil (mu : Bool) (n : Nat) : Ok mu n (((0 : Nat) : Int) * 10) [] := { nd := List.nodup_nil, rng := fun w hw => absurd hw List.not_mem_nil, low := fun w hw => absurd hw List.not_mem_nil, len := by simp }

theorem tr_up {ws : Wy} {e : Int} : ∀ {k : Nat} {p q : Pt}, q ∈ tr ws e k p → q.length ≤ p.length + k
  | 0, p, q, h => by
    unfold tr at h
    split at h
    · rw [List.mem_singleton.mp h]; exact Nat.le_refl _
    · cases h
  | k + 1, p, q, h => by
    rw [tr] at h
    split at h
    · rw [List.mem_singleton.mp h]; omega
    · obtain ⟨c, hc, hq⟩ := List.mem_flatMap.mp h
      have := tr_up hq
      have := nxt_len hc
      omega

theorem small {n : Nat} {ws : Wy} (h : NetOk n ws) (hn : n ≤ 6) (s e : Int) (m : Nat) (hm : m ≤ 6) : cnt ws e m [s] < 900000 ∧ (tr ws e m [s]).length ≤ 46656 := by
  have c := cnt_le ws e (fun x => Nat.le_trans (h.sp x) hn) m [s]
  rw [Nat.div_one, Nat.sub_zero] at c
  have c1 : 7 ^ (m + 1) ≤ 7 ^ 7 := Nat.pow_le_pow_right (by decide) (by omega)
  have c2 : 6 ^ m ≤ 6 ^ 6 := Nat.pow_le_pow_right (by decide) hm
  have c3 : (7 : Nat) ^ 7 = 823543 := by decide
  have c4 : (6 : Nat) ^ 6 = 46656 := by decide
  omega
/-! a step of a while loop -/
theorem whSN_nx {σ M : Type} {Sc Sb : σ → Prop} {c : σ → Bool} {b : σ → Fo σ M} {n : Nat} {s s' : σ} (h1 : Sc s) (h2 : Sb s) (h3 : b s = .nx s') (h4 : whSN Sc Sb c b n s') : whSN Sc Sb c b (n + 1) s := ⟨h1, fun _ => ⟨h2, by rw [h3]; exact h4⟩⟩
theorem whN_nx {σ M : Type} {c : σ → Bool} {b : σ → Fo σ M} {n : Nat} {s s' : σ} {o : Fo σ M} (h1 : c s = true) (h3 : b s = .nx s') (h4 : whN c b n s' = some o) : whN c b (n + 1) s = some o := by rw [whN, if_pos h1, h3]; exact h4
end TM

/-! plain things that the templates use -/
namespace TM
open PySem PySem.Spec
open PyProof.Rows hiding St
open L2 EE
theorem sl_of {n : Nat} (h : n ≤ 16777216) : n ≤ sizeLine := by rw [sizeLine_eq]; exact h
theorem slt_of {n : Nat} (h : n < 16777216) : n < sizeLine := by rw [sizeLine_eq]; exact h
theorem mem_rgF {lo x : Int} {n : Nat} : x ∈ rgF lo n ↔ lo ≤ x ∧ x < lo + n := by
  unfold rgF
  rw [List.mem_map]
  constructor
  · rintro ⟨i, hi, rfl⟩
    have := List.mem_range.mp hi
    omega
  · rintro ⟨h1, h2⟩
    exact ⟨(x - lo).toNat, List.mem_range.mpr (by omega), by omega⟩
theorem mem_rg {x : Int} {n : Nat} : x ∈ rg (n : Int) ↔ 0 ≤ x ∧ x < n := by
  unfold rg
  rw [mem_rgF]
  simp
theorem rgF_len (lo : Int) (n : Nat) : (rgF lo n).length = n := by unfold rgF; simp
theorem rg_len (n : Nat) : (rg (n : Int)).length = n := by unfold rg rgF; simp
theorem rgF_succ (n : Nat) : rgF 0 (n + 1) = rgF 0 n ++ [(n : Int)] := by
  unfold rgF
  rw [List.range_succ, List.map_append]
  simp
theorem rg_nat (n : Nat) : rg (n : Int) = rgF 0 n := by unfold rg; rw [Int.toNat_natCast]
theorem rg_pw (n : Nat) : (rg (n : Int)).Pairwise (· < ·) := by
  rw [rg_nat]
  unfold rgF
  rw [List.pairwise_map]
  exact List.pairwise_lt_range.imp (fun {a b} h => by show (0 : Int) + a < 0 + b; omega)
theorem rg_nd (n : Nat) : (rg (n : Int)).Nodup := (rg_pw n).imp fun {a b} h => Int.ne_of_lt h
theorem NetOk.sq {n : Nat} {ws : Wy} (h : NetOk n ws) : ws.length ≤ n * n := by
  have := List.Nodup.length_le_of_subset h.nd (l₂ := (rg (n : Int)).flatMap fun a => (rg (n : Int)).map fun b => (a, b)) (fun w hw => by
    have := h.rng w hw
    exact List.mem_flatMap.mpr ⟨w.1, mem_rg.mpr this.1, List.mem_map.mpr ⟨w.2, mem_rg.mpr this.2, rfl⟩⟩)
  rw [List.length_flatMap] at this
  simp only [List.length_map, rg_len, List.map_const', List.sum_replicate_nat] at this
  exact this
/-- lots are told by their members -/
theorem sub_pw {n : Nat} {a : List Int} (h : a.Sublist (rg (n : Int))) : a.Pairwise (· < ·) := (rg_pw n).sublist h
theorem sub_nd {n : Nat} {a : List Int} (h : a.Sublist (rg (n : Int))) : a.Nodup := (sub_pw h).imp fun {a b} h => Int.ne_of_lt h
theorem sub_ext {n : Nat} {a b : List Int} (ha : a.Sublist (rg (n : Int))) (hb : b.Sublist (rg (n : Int))) (h : ∀ x, x ∈ a ↔ x ∈ b) : a = b :=
  List.Perm.eq_of_pairwise (le := (· < ·)) (fun x y _ _ h1 h2 => by omega) (sub_pw ha) (sub_pw hb) ((List.perm_ext_iff_of_nodup (sub_nd ha) (sub_nd hb)).mpr h)
theorem sub_len {n : Nat} {a b : List Int} (ha : a.Sublist (rg (n : Int))) (hb : b.Sublist (rg (n : Int))) (h : ∀ x ∈ a, x ∈ b) (hl : b.length ≤ a.length) : a = b := by
  refine sub_ext ha hb fun x => ⟨h x, fun hx => Classical.byContradiction fun hn => ?_⟩
  have := List.Nodup.length_le_of_subset (l₁ := x :: a) (List.nodup_cons.mpr ⟨hn, sub_nd ha⟩) (fun y hy => by
    rcases List.mem_cons.mp hy with rfl | hy
    · exact hx
    · exact h y hy)
  simp at this
  omega
theorem ex_max {α : Type} (f : α → Nat) : ∀ {xs : List α}, xs ≠ [] → ∃ x ∈ xs, ∀ y ∈ xs, f y ≤ f x
  | [x], _ => ⟨x, by simp, fun y hy => by rw [List.mem_singleton.mp hy]; exact Nat.le_refl _⟩
  | x :: z :: xs, _ => by
    obtain ⟨w, hw, h⟩ := ex_max f (xs := z :: xs) (by simp)
    by_cases hc : f w ≤ f x
    · exact ⟨x, by simp, fun y hy => by
        rcases List.mem_cons.mp hy with rfl | hy
        · exact Nat.le_refl _
        · exact Nat.le_trans (h y hy) hc⟩
    · exact ⟨w, List.mem_cons_of_mem _ hw, fun y hy => by
        rcases List.mem_cons.mp hy with rfl | hy
        · omega
        · exact h y hy⟩
/-- a loop over a range, with what stands after so many turns -/
theorem forF_app {α σ : Type} {b : α → σ → σ} : ∀ (xs ys : List α) (s : σ), forF b (xs ++ ys) s = forF b ys (forF b xs s)
  | [], ys, s => rfl
  | x :: xs, ys, s => forF_app xs ys (b x s)
theorem forSF_app {α σ : Type} {S : α → σ → Prop} {b : α → σ → σ} : ∀ {xs ys : List α} {s : σ}, forSF S b xs s → forSF S b ys (forF b xs s) → forSF S b (xs ++ ys) s
  | [], ys, s, _, h => h
  | x :: xs, ys, s, h, h2 => ⟨h.1, forSF_app (xs := xs) h.2 h2⟩
theorem for_rg {σ : Type} {S : Int → σ → Prop} {b : Int → σ → σ} (I : Nat → σ → Prop) {s : σ} : ∀ (n : Nat), (∀ i : Nat, i < n → ∀ s, I i s → S i s ∧ I (i + 1) (b i s)) → I 0 s → forSF S b (rg (n : Int)) s ∧ I n (forF b (rg (n : Int)) s)
  | 0, _, h => ⟨trivial, h⟩
  | n + 1, h, h0 => by
    obtain ⟨h1, h2⟩ := for_rg I n (fun i hi => h i (by omega)) h0
    obtain ⟨h3, h4⟩ := h n (by omega) _ h2
    rw [rg_nat] at h1 h2 h3 h4 ⊢
    rw [rgF_succ]
    exact ⟨forSF_app h1 ⟨h3, trivial⟩, by rw [forF_app]; exact h4⟩
/-- a loop over a list, with what stands before each turn -/
theorem for_pre {α σ : Type} {S : α → σ → Prop} {b : α → σ → σ} (I : List α → σ → Prop) : ∀ (xs pre : List α) (s : σ), (∀ (ys : List α) (x : α), ys.length < pre.length + xs.length → x ∈ xs → ∀ s, I ys s → S x s ∧ I (ys ++ [x]) (b x s)) → I pre s → forSF S b xs s ∧ I (pre ++ xs) (forF b xs s)
  | [], pre, s, _, h => ⟨trivial, by rw [List.append_nil]; exact h⟩
  | x :: xs, pre, s, h, h0 => by
    obtain ⟨h1, h2⟩ := h pre x (by simp) List.mem_cons_self s h0
    obtain ⟨h3, h4⟩ := for_pre I xs (pre ++ [x]) (b x s) (fun ys y hl hy => h ys y (by simp at hl ⊢; omega) (List.mem_cons_of_mem _ hy)) h2
    exact ⟨⟨h1, h3⟩, by rw [List.append_assoc] at h4; exact h4⟩
theorem nil_fm {α β : Type} {xs : List α} {f : α → Bool} {g : α → β} [Decidable ((xs.filter f).map g = [])] : decide ((xs.filter f).map g = []) = true ↔ ∀ x ∈ xs, f x = false := by
  rw [decide_eq_true_iff, List.map_eq_nil_iff, List.filter_eq_nil_iff]
  constructor
  · intro h x hx
    have := h x hx
    simpa using this
  · intro h x hx
    rw [h x hx]; decide
theorem not_nil_fm {α β : Type} {xs : List α} {f : α → Bool} {g : α → β} [Decidable ((xs.filter f).map g = [])] : (!decide ((xs.filter f).map g = [])) = true ↔ ∃ x ∈ xs, f x = true := by
  rw [Bool.not_eq_true']
  constructor
  · intro h
    have h : ¬ decide ((xs.filter f).map g = []) = true := by rw [h]; decide
    rw [nil_fm] at h
    have h := Classical.not_forall.mp h
    obtain ⟨x, hx⟩ := h
    obtain ⟨h1, h2⟩ := Classical.not_imp.mp hx
    exact ⟨x, h1, by simpa using h2⟩
  · rintro ⟨x, hx, hf⟩
    refine Bool.eq_false_iff.mpr fun z => ?_
    have := nil_fm.mp z x hx
    rw [hf] at this; cases this
theorem nil_fm_f {α β : Type} {xs : List α} {f : α → Bool} {g : α → β} [Decidable ((xs.filter f).map g = [])] : decide ((xs.filter f).map g = []) = false ↔ ∃ x ∈ xs, f x = true := by
  rw [← not_nil_fm (g := g), Bool.not_eq_true']
theorem memB_iff' {α : Type} [DecidableEq α] {x : α} {xs : List α} : memB x xs = true ↔ x ∈ xs := memB_iff
theorem nmemB {α : Type} [DecidableEq α] {x : α} {xs : List α} : (!memB x xs) = true ↔ x ∉ xs := by
  rw [Bool.not_eq_true', memB_false]
theorem memB_f {α : Type} [DecidableEq α] {x : α} {xs : List α} : memB x xs = false ↔ x ∉ xs := by
  exact memB_false
theorem cutF_hi {α : Type} (xs : List α) (h : Nat) : cutF xs none (some (h : Int)) = xs.take h := by
  unfold cutF
  rw [HT.sIx_nat, HT.sIx_none, Nat.sub_zero, List.drop_zero]
  rcases Nat.le_total h xs.length with hh | hh
  · rw [Nat.min_eq_left hh]
  · rw [Nat.min_eq_right hh, List.take_of_length_le (Nat.le_refl _), List.take_of_length_le hh]
theorem cutF_lo {α : Type} (xs : List α) (h : Nat) : cutF xs (some (h : Int)) none = xs.drop h := by
  unfold cutF
  rw [HT.sIx_nat, HT.sIx_none]
  rcases Nat.le_total h xs.length with hh | hh
  · rw [Nat.min_eq_left hh, List.take_of_length_le (by rw [List.length_drop]; omega)]
  · rw [Nat.min_eq_right hh, List.drop_of_length_le (Nat.le_refl _), List.drop_of_length_le hh, List.take_nil]
end TM

/-! loops that may end early; what _law_like asks of a value's size -/
namespace TM
open PySem PySem.Spec
open PyProof.Rows hiding St
open L2 EE
/-- a search: the first turn that ends all -/
theorem forB_rt {α σ M : Type} {b : α → σ → Fo σ M} {s : σ} : ∀ (xs : List α), (∀ x ∈ xs, b x s = .nx s ∨ ∃ m, b x s = .rt m) → (forB b xs s = .nx s ∧ ∀ x ∈ xs, b x s = .nx s) ∨ ∃ x ∈ xs, ∃ m, b x s = .rt m ∧ forB b xs s = .rt m
  | [], _ => .inl ⟨rfl, fun x hx => nomatch hx⟩
  | x :: xs, h => by
    rcases h x List.mem_cons_self with e | ⟨m, e⟩
    · rcases forB_rt xs (fun y hy => h y (List.mem_cons_of_mem _ hy)) with ⟨h1, h2⟩ | ⟨y, hy, m, h1, h2⟩
      · exact .inl ⟨by rw [forB, e]; exact h1, fun y hy => by
          rcases List.mem_cons.mp hy with rfl | hy
          · exact e
          · exact h2 y hy⟩
      · exact .inr ⟨y, List.mem_cons_of_mem _ hy, m, h1, by rw [forB, e]; exact h2⟩
    · exact .inr ⟨x, List.mem_cons_self, m, e, by rw [forB, e]⟩
/-- a loop that only asks whether some turn says yes -/
theorem forB_any {α M : Type} {b : α → Bool → Fo Bool M} {p : α → Bool} : ∀ (xs : List α), (∀ x ∈ xs, b x false = if p x = true then .bk true else .nx false) → forB b xs false = .nx (xs.any p)
  | [], _ => rfl
  | x :: xs, h => by
    rw [forB, h x List.mem_cons_self, List.any_cons]
    cases p x with
    | true => rfl
    | false => exact forB_any xs fun y hy => h y (List.mem_cons_of_mem _ hy)
/-- a loop whose turns all go on, state unchanged -/
theorem forB_same {α σ M : Type} {b : α → σ → Fo σ M} {s : σ} : ∀ (xs : List α), (∀ x ∈ xs, b x s = .nx s) → forB b xs s = .nx s
  | [], _ => rfl
  | x :: xs, h => by rw [forB, h x List.mem_cons_self]; exact forB_same xs fun y hy => h y (List.mem_cons_of_mem _ hy)
theorem forS_all {α M : Type} {S : α → Unit → Prop} {b : α → Unit → Fo Unit M} (xs : List α) (h : ∀ x ∈ xs, S x ()) : forS S b xs () := forS_of (fun _ => True) xs () (fun x hx s _ => ⟨h x hx, fun _ _ => trivial⟩) trivial
theorem mem_enumF {α : Type} {x : α} : ∀ {xs : List α} {k : Int} {i : Int}, (i, x) ∈ enumF k xs ↔ ∃ j : Nat, i = k + j ∧ xs[j]? = some x
  | [], k, i => by simp [enumF]
  | y :: xs, k, i => by
    rw [enumF, List.mem_cons, mem_enumF]
    constructor
    · rintro (h | ⟨j, h1, h2⟩)
      · injection h with h1 h2
        exact ⟨0, by omega, by simp [h2]⟩
      · exact ⟨j + 1, by omega, by simpa using h2⟩
    · rintro ⟨j, h1, h2⟩
      cases j with
      | zero =>
        left
        have h2 : some y = some x := h2
        injection h2 with h2
        rw [h2, h1]; simp
      | succ j => exact .inr ⟨j, by omega, by simpa using h2⟩
theorem lcX_ne {α β σ : Type} {b : α → σ → Option β × σ} {xs : List α} {s : σ} (h : ∀ {x} s, ∃ y, (b x s).1 = some y) (hx : xs ≠ []) : (lcX b xs s).1 ≠ [] := by
  cases xs with
  | nil => exact absurd rfl hx
  | cons x xs =>
    rw [lcX]
    obtain ⟨y, hy⟩ := h (x := x) s
    cases e : b x s with
    | mk o s' =>
      rw [e] at hy
      have hy : o = some y := hy
      subst hy
      simp
/-- a search's answer -/
theorem forB_find {α : Type} {b : α → Unit → Fo Unit (Option α)} {p : α → Bool} : ∀ (xs : List α), (∀ x ∈ xs, b x () = if p x = true then .rt (some x) else .nx ()) → (forB b xs ()).to (fun _ => none) = xs.find? p
  | [], _ => rfl
  | x :: xs, h => by
    rw [forB, h x List.mem_cons_self]
    cases hp : p x with
    | true => rw [List.find?_cons_of_pos hp]; rfl
    | false =>
      rw [List.find?_cons_of_neg (by rw [hp]; decide), if_neg (by decide)]
      exact forB_find xs fun y hy => h y (List.mem_cons_of_mem _ hy)
theorem find_le {xs : List Int} (pw : xs.Pairwise (· < ·)) {p q : Int → Bool} (h : ∀ x ∈ xs, p x = true → q x = true) {x : Int} (hx : xs.find? p = some x) : ∃ y, xs.find? q = some y ∧ y ≤ x := by
  induction xs with
  | nil => cases hx
  | cons a xs ih =>
    rw [List.pairwise_cons] at pw
    by_cases ha : q a = true
    · refine ⟨a, List.find?_cons_of_pos ha, ?_⟩
      have := List.mem_of_find?_eq_some hx
      rcases List.mem_cons.mp this with rfl | hm
      · exact Int.le_refl _
      · exact Int.le_of_lt (pw.1 x hm)
    · have hp : ¬ p a = true := fun z => ha (h a List.mem_cons_self z)
      rw [List.find?_cons_of_neg hp] at hx
      obtain ⟨y, h1, h2⟩ := ih pw.2 (fun z hz => h z (List.mem_cons_of_mem _ hz)) hx
      exact ⟨y, by rw [List.find?_cons_of_neg ha]; exact h1, h2⟩
/-- a loop over a number that may fail -/
def loopO {α : Type} (f : α → Int → Option Int) : List α → Int → Option Int
  | [], s => some s
  | x :: xs, s => (f x s).bind (loopO f xs)
def oFo {M : Type} (m : M) : Option Int → Fo Int M
  | none => .rt m
  | some t => .nx t
theorem forB_loopO {α M : Type} {b : α → Int → Fo Int M} {f : α → Int → Option Int} {m : M} : ∀ (xs : List α) (s : Int), (∀ x ∈ xs, ∀ s, b x s = oFo m (f x s)) → forB b xs s = oFo m (loopO f xs s)
  | [], s, _ => rfl
  | x :: xs, s, h => by
    rw [forB, h x List.mem_cons_self s, loopO]
    cases f x s with
    | none => rfl
    | some t => exact forB_loopO xs t fun y hy => h y (List.mem_cons_of_mem _ hy)
theorem loopO_congr {α : Type} {f g : α → Int → Option Int} : ∀ (xs : List α) (s : Int), (∀ x ∈ xs, ∀ s, f x s = g x s) → loopO f xs s = loopO g xs s
  | [], s, _ => rfl
  | x :: xs, s, h => by
    rw [loopO, loopO, h x List.mem_cons_self s]
    cases g x s with
    | none => rfl
    | some t => exact loopO_congr xs t fun y hy => h y (List.mem_cons_of_mem _ hy)
/-- .. where only numbers from 0 on come -/
theorem loopO_nn {α : Type} {f g : α → Int → Option Int} : ∀ (xs : List α) (s : Int), 0 ≤ s → (∀ x ∈ xs, ∀ s, 0 ≤ s → f x s = g x s ∧ ∀ t, f x s = some t → 0 ≤ t) → loopO f xs s = loopO g xs s ∧ ∀ t, loopO f xs s = some t → 0 ≤ t
  | [], s, h0, _ => ⟨rfl, fun t ht => by injection ht with ht; omega⟩
  | x :: xs, s, h0, h => by
    obtain ⟨h1, h2⟩ := h x List.mem_cons_self s h0
    rw [loopO, loopO, ← h1]
    cases e : f x s with
    | none => exact ⟨rfl, fun t ht => by cases ht⟩
    | some t => exact loopO_nn xs t (h2 t e) fun y hy => h y (List.mem_cons_of_mem _ hy)
theorem loopO_skip {α : Type} {f : α → Int → Option Int} {p : α → Bool} : ∀ (xs : List α) (s : Int), 0 ≤ s → (∀ x ∈ xs, ∀ s, 0 ≤ s → (p x = false → f x s = some s) ∧ ∀ t, f x s = some t → 0 ≤ t) → loopO f xs s = loopO f (xs.filter p) s
  | [], s, _, _ => rfl
  | x :: xs, s, h0, h => by
    obtain ⟨h1, h2⟩ := h x List.mem_cons_self s h0
    cases hp : p x with
    | true =>
      rw [List.filter_cons_of_pos hp, loopO, loopO]
      cases e : f x s with
      | none => rfl
      | some t => exact loopO_skip xs t (h2 t e) fun y hy => h y (List.mem_cons_of_mem _ hy)
    | false =>
      rw [List.filter_cons_of_neg (by rw [hp]; decide), loopO, h1 hp]
      exact loopO_skip xs s h0 fun y hy => h y (List.mem_cons_of_mem _ hy)
theorem loopO_le {α : Type} {f g : α → Int → Option Int} : ∀ (xs : List α) (s s' t' : Int), (∀ x ∈ xs, ∀ s s' t', s ≤ s' → g x s' = some t' → ∃ t, f x s = some t ∧ t ≤ t') → s ≤ s' → loopO g xs s' = some t' → ∃ t, loopO f xs s = some t ∧ t ≤ t'
  | [], s, s', t', _, hs, h => ⟨s, rfl, by injection h with h; omega⟩
  | x :: xs, s, s', t', h, hs, e => by
    rw [loopO] at e
    cases e2 : g x s' with
    | none => rw [e2] at e; cases e
    | some u' =>
      rw [e2] at e
      obtain ⟨u, h1, h2⟩ := h x List.mem_cons_self s s' u' hs e2
      obtain ⟨t, h3, h4⟩ := loopO_le xs u u' t' (fun y hy => h y (List.mem_cons_of_mem _ hy)) h2 e
      exact ⟨t, by rw [loopO, h1]; exact h3, h4⟩
/-! sizes -/
structure Lk {α : Type} (c : Cd α) (a : α) (k N : Nat) : Prop where
  sz : D.sz (c.e a) ≤ N
  tp : D.tp k (c.e a) = true
structure LkR {α : Type} (c : Cr α) (a : α) (k N : Nat) : Prop where
  sz : D.szL (c.e a) ≤ N
  tp : (c.e a).all (D.tp k) = true
theorem Lk.mono {α : Type} {c : Cd α} {a : α} {k N M : Nat} (h : Lk c a k N) (hn : N ≤ M) : Lk c a k M := ⟨Nat.le_trans h.sz hn, h.tp⟩
theorem lk_I (i : Int) (k : Nat) : Lk cI i k 1 := ⟨Nat.le_refl _, by cases k <;> rfl⟩
theorem lk_B (i : Bool) (k : Nat) : Lk cB i k 1 := ⟨Nat.le_refl _, by cases k <;> rfl⟩
theorem lk_N (i : Unit) (k : Nat) : Lk cN i k 1 := ⟨Nat.le_refl _, by cases k <;> rfl⟩
theorem lk_T {α : Type} {c : Cd α} {xs : List α} {k N : Nat} (h : ∀ x ∈ xs, Lk c x k N) : Lk (cT c) xs (k + 1) (1 + xs.length * N) := by
  constructor
  · show 1 + D.szL (xs.map c.e) ≤ _
    have : D.szL (xs.map c.e) ≤ xs.length * N := by
      induction xs with
      | nil => exact Nat.zero_le _
      | cons x xs ih =>
        have := ih fun y hy => h y (List.mem_cons_of_mem _ hy)
        have h1 := (h x List.mem_cons_self).sz
        rw [List.length_cons, Nat.succ_mul]
        show D.sz (c.e x) + D.szL (xs.map c.e) ≤ _
        omega
    omega
  · show (true && (xs.map c.e).all (D.tp k)) = true
    rw [Bool.true_and, List.all_eq_true]
    intro x hx
    obtain ⟨y, hy, rfl⟩ := List.mem_map.mp hx
    exact (h y hy).tp
theorem lk_P {α : Type} {r : Cr α} {a : α} {k N : Nat} (h : LkR r a k N) : Lk (cP r) a (k + 1) (1 + N) := ⟨Nat.add_le_add_left h.sz 1, h.tp⟩
theorem lk_C {α β : Type} {c : Cd α} {r : Cr β} {a : α × β} {k N M : Nat} (h1 : Lk c a.1 k N) (h2 : LkR r a.2 k M) : LkR (rC c r) a k (N + M) := ⟨Nat.add_le_add h1.sz h2.sz, by
  show (D.tp k (c.e a.1) && (r.e a.2).all (D.tp k)) = true
  rw [h1.tp, h2.tp]; rfl⟩
theorem lk_1 {α : Type} {c : Cd α} {a : α} {k N : Nat} (h : Lk c a k N) : LkR (r1 c) a k N := ⟨h.sz, by
  show (D.tp k (c.e a) && true) = true
  rw [h.tp]; rfl⟩
theorem lk_O {α : Type} {c : Cd α} {hn : ∀ a, (c.e a).isN = false} {a : Option α} {k N : Nat} (h : ∀ x, a = some x → Lk c x k N) : Lk (cO c hn) a k (N + 1) := by
  cases a with
  | none => exact ⟨Nat.le_add_left _ _, by show D.tp k .non = true; cases k <;> rfl⟩
  | some x => exact ⟨Nat.le_succ_of_le (h x rfl).sz, (h x rfl).tp⟩
theorem lk_TI (xs : List Int) (k : Nat) : Lk (cT cI) xs (k + 1) (1 + xs.length) := (lk_T fun x _ => lk_I x k).mono (by omega)
end TM

namespace K02
open PySem PySem.Spec
open PyProof.Rows hiding St
open L2 EE

def topS (i : Nat) : Stmt := PySem.Challenge.pw_nonelearns_k02_whole_told_in_so_many_rou.main.body.getD i (.Pass ⟨0, 0, 0, 0⟩)
structure Zs (mg : Str → Option Value) : Prop where
  abs_ : mg "abs" = none
  all_ : mg "all" = none
  any_ : mg "any" = none
  bool_ : mg "bool" = none
  enumerate_ : mg "enumerate" = none
  int_ : mg "int" = none
  isinstance_ : mg "isinstance" = none
  len_ : mg "len" = none
  list_ : mg "list" = none
  max_ : mg "max" = none
  min_ : mg "min" = none
  range_ : mg "range" = none
  set_ : mg "set" = none
  sorted_ : mg "sorted" = none
  str_ : mg "str" = none
  tuple_ : mg "tuple" = none
  zip_ : mg "zip" = none
noncomputable section
variable {P : Program} {w : World} {K : PySem.W.Frag} {mg : Str → Option Value} {base : Heap}
abbrev s_less : Stmt := topS 1
theorem sc_less : FnScope ["one", "two", "house"] ["one", "two"] (defScope s_less) := ⟨rfl, rfl, rfl, by decide +kernel, rfl, by decide +kernel, by decide +kernel⟩
def b_less_1 : FE := (fFz (fName 2))
def b_less_2 : FT := (fB (fOp2 (sIn true) (fName 2) (fName 1)))
def b_less_3 : FS := (fRet (fCall sTuple (faCons (fLC (fiSeq (fName 0)) (gSet 2) b_less_2 b_less_1 [2]) faNil)))
def F_less : List D → CO := runF [false, false] 3 b_less_3
theorem own_less (Z : Zs mg) {f : Addr} {fd : FuncData} (F : Fun K "less" "less" s_less f fd) (hm : mg "less" = some (.ref f)) : Own P w K mg base 1 "less" ["one", "two"] [false, false] F_less :=
  ⟨f, fd, fn_ok F sc_less rfl rfl fun cdv A outer s H E hr =>
    have ft := fitE (P := P) (w := w) (K := K) (mg := mg) (base := base) (N := ["one", "two", "house"]) (qual := "less") (scope := defScope s_less) (f := f) (cd := cdv) (A := A) (outer := outer) (s := s) (H := H) (E := E)
    (xs_one (s_ret (y_typ (f_tuple ft) rfl Z.tuple_ (xa_cons (x_lc (own := [("house", 2)]) (ft).K (ft).calm sc_less.nd (xi_seq (ft).K (x_name (i := 0))) (blkOk_by (by rfl)) (fun _ _ _ _ _ => (g_name (i := 2) sc_less.nd rfl (by first | exact .inl rfl | exact .inr rfl))) (fun _ _ _ _ _ => (xts_one (yt_cmp (c_notIn (Fit.blk ft) hr) (x_name (i := 2)) (x_name (i := 1))))) (fun _ _ _ _ _ => (x_fz (x_name (i := 2)))) (by decide)) xa_nil)))), hm, F.kp, bindsE F (fun kV doc pm an cdv ct j us ws _ h2 h3 => bs2 (B := fun j us ws => bindArgs (PySem.W.fnOf "less" "less" (defArgs s_less) (defBody s_less) (defScope s_less) .none kV doc pm an cdv ct) ⟨us, ((["one", "two"] : List Str).drop j).zip ws⟩ = pure ((["one", "two"] : List Str).zip (us ++ ws))) (by intros; rfl) (by intros; rfl) (by intros; rfl) j us ws h2 h3)⟩
abbrev s_shared : Stmt := topS 2
theorem sc_shared : FnScope ["one", "two", "house"] ["one", "two"] (defScope s_shared) := ⟨rfl, rfl, rfl, by decide +kernel, rfl, by decide +kernel, by decide +kernel⟩
def b_shared_1 : FE := (fFz (fName 2))
def b_shared_2 : FT := (fB (fOp2 (sIn false) (fName 2) (fName 1)))
def b_shared_3 : FS := (fRet (fCall sTuple (faCons (fLC (fiSeq (fName 0)) (gSet 2) b_shared_2 b_shared_1 [2]) faNil)))
def F_shared : List D → CO := runF [false, false] 3 b_shared_3
theorem own_shared (Z : Zs mg) {f : Addr} {fd : FuncData} (F : Fun K "shared" "shared" s_shared f fd) (hm : mg "shared" = some (.ref f)) : Own P w K mg base 1 "shared" ["one", "two"] [false, false] F_shared :=
  ⟨f, fd, fn_ok F sc_shared rfl rfl fun cdv A outer s H E hr =>
    have ft := fitE (P := P) (w := w) (K := K) (mg := mg) (base := base) (N := ["one", "two", "house"]) (qual := "shared") (scope := defScope s_shared) (f := f) (cd := cdv) (A := A) (outer := outer) (s := s) (H := H) (E := E)
    (xs_one (s_ret (y_typ (f_tuple ft) rfl Z.tuple_ (xa_cons (x_lc (own := [("house", 2)]) (ft).K (ft).calm sc_shared.nd (xi_seq (ft).K (x_name (i := 0))) (blkOk_by (by rfl)) (fun _ _ _ _ _ => (g_name (i := 2) sc_shared.nd rfl (by first | exact .inl rfl | exact .inr rfl))) (fun _ _ _ _ _ => (xts_one (yt_cmp (c_in (Fit.blk ft) hr) (x_name (i := 2)) (x_name (i := 1))))) (fun _ _ _ _ _ => (x_fz (x_name (i := 2)))) (by decide)) xa_nil)))), hm, F.kp, bindsE F (fun kV doc pm an cdv ct j us ws _ h2 h3 => bs2 (B := fun j us ws => bindArgs (PySem.W.fnOf "shared" "shared" (defArgs s_shared) (defBody s_shared) (defScope s_shared) .none kV doc pm an cdv ct) ⟨us, ((["one", "two"] : List Str).drop j).zip ws⟩ = pure ((["one", "two"] : List Str).zip (us ++ ws))) (by intros; rfl) (by intros; rfl) (by intros; rfl) j us ws h2 h3)⟩
abbrev s_explains : Stmt := topS 4
theorem sc_explains : FnScope ["net", "start", "end", "reports", "value", "lot", "others", "trail", "said"] ["net", "start", "end", "reports", "value", "lot"] (defScope s_explains) := ⟨rfl, rfl, rfl, by decide +kernel, rfl, by decide +kernel, by decide +kernel⟩
def b_explains_1 : FE := (fOp2 sEq (fName 8) (fName 4))
def b_explains_2 : FT := (fB (fOp2 sEq (fCallU [false, false] F_shared (faCons (fFz (fName 7)) (faCons (fFz (fName 6)) faNil))) (fTup faNil)))
def b_explains_3 : FS := (fRet (fCall sAll (faCons (fLC (fiSeq (fName 3)) (gTup [(gSet 7), (gSet 8)]) b_explains_2 b_explains_1 [7, 8]) faNil)))
def b_explains_4 : FS := fSeq (fAsg (fCallU [false, false] F_less (faCons (fFz (fName 5)) (faCons (fTup (faCons (fFz (fName 1)) (faCons (fFz (fName 2)) faNil))) faNil))) (gSet 6)) b_explains_3
def F_explains : List D → CO := runF [false, false, false, false, false, false] 9 b_explains_4
theorem own_explains (Z : Zs mg) {f : Addr} {fd : FuncData} (F : Fun K "explains" "explains" s_explains f fd) (hm : mg "explains" = some (.ref f)) (O_less : Own P w K mg base 1 "less" ["one", "two"] [false, false] F_less) (O_shared : Own P w K mg base 1 "shared" ["one", "two"] [false, false] F_shared) : Own P w K mg base 2 "explains" ["net", "start", "end", "reports", "value", "lot"] [false, false, false, false, false, false] F_explains :=
  ⟨f, fd, fn_ok F sc_explains rfl rfl fun cdv A outer s H E hr =>
    have ft := fitE (P := P) (w := w) (K := K) (mg := mg) (base := base) (N := ["net", "start", "end", "reports", "value", "lot", "others", "trail", "said"]) (qual := "explains") (scope := defScope s_explains) (f := f) (cd := cdv) (A := A) (outer := outer) (s := s) (H := H) (E := E)
    (xs_cons (s_set (i := 6) sc_explains.nd rfl (by first | exact .inl rfl | exact .inr rfl) (x_callO ft O_less hr rfl (xa_cons (x_fz (x_name (i := 5))) (xa_cons (x_tup (xa_cons (x_fz (x_name (i := 1))) (xa_cons (x_fz (x_name (i := 2))) xa_nil))) xa_nil))))
 (xs_one (s_ret (y_blt (f_all ft) rfl Z.all_ (xa_cons (x_lc (own := [("trail", 7), ("said", 8)]) (ft).K (ft).calm sc_explains.nd (xi_seq (ft).K (x_name (i := 3))) (blkOk_by (by rfl)) (fun _ _ _ _ _ => (g_tup ((Fit.blk ft)).calm ((Fit.blk ft)).K (gs_cons (g_name (i := 7) sc_explains.nd rfl (by first | exact .inl rfl | exact .inr rfl)) (gs_cons (g_name (i := 8) sc_explains.nd rfl (by first | exact .inl rfl | exact .inr rfl)) gs_nil)))) (fun _ _ _ _ _ => (xts_one (yt_cmp (c_eq (Fit.blk ft) hr) (x_callO (Fit.blk ft) O_shared hr rfl (xa_cons (x_fz (x_name (i := 7))) (xa_cons (x_fz (x_name (i := 6))) xa_nil))) (x_tup xa_nil)))) (fun _ _ _ _ _ => (y_cmp (c_eq (Fit.blk ft) hr) (x_name (i := 8)) (x_name (i := 4)))) (by decide)) xa_nil))))), hm, F.kp, bindsE F (fun kV doc pm an cdv ct j us ws _ h2 h3 => bs6 (B := fun j us ws => bindArgs (PySem.W.fnOf "explains" "explains" (defArgs s_explains) (defBody s_explains) (defScope s_explains) .none kV doc pm an cdv ct) ⟨us, ((["net", "start", "end", "reports", "value", "lot"] : List Str).drop j).zip ws⟩ = pure ((["net", "start", "end", "reports", "value", "lot"] : List Str).zip (us ++ ws))) (by intros; rfl) (by intros; rfl) (by intros; rfl) (by intros; rfl) (by intros; rfl) (by intros; rfl) (by intros; rfl) j us ws h2 h3)⟩
abbrev s_fit_values : Stmt := topS 5
theorem sc_fit_values : FnScope ["net", "liars", "start", "end", "values", "reports", "found", "value", "lot"] ["net", "liars", "start", "end", "values", "reports"] (defScope s_fit_values) := ⟨rfl, rfl, rfl, by decide +kernel, rfl, by decide +kernel, by decide +kernel⟩
def b_fit_values_1 : FE := (fCallU [false, false, false, false, false, false] F_explains (faCons (fFz (fName 0)) (faCons (fFz (fName 2)) (faCons (fFz (fName 3)) (faCons (fFz (fName 5)) (faCons (fFz (fName 7)) (faCons (fFz (fName 8)) faNil)))))))
def b_fit_values_2 : FS := (fDrop (fApp 6 (fFz (fName 7))))
def b_fit_values_3 : FS := (fIfS (fB (fCall sAny (faCons (fLC (fiSeq (fName 1)) (gSet 8) fYes b_fit_values_1 [8]) faNil))) b_fit_values_2 fNx)
def b_fit_values_4 : FS := (fRet (fCall sTuple (faCons (fName 6) faNil)))
def b_fit_values_5 : FS := fSeq (fFor (fiRng1 (faCons (fName 4) faNil)) (gSet 7) b_fit_values_3) b_fit_values_4
def b_fit_values_6 : FS := fSeq (fAsg (fLst faNil) (gSet 6)) b_fit_values_5
def F_fit_values : List D → CO := runF [false, false, false, false, false, false] 9 b_fit_values_6
theorem own_fit_values (Z : Zs mg) {f : Addr} {fd : FuncData} (F : Fun K "fit_values" "fit_values" s_fit_values f fd) (hm : mg "fit_values" = some (.ref f)) (O_explains : Own P w K mg base 2 "explains" ["net", "start", "end", "reports", "value", "lot"] [false, false, false, false, false, false] F_explains) : Own P w K mg base 3 "fit_values" ["net", "liars", "start", "end", "values", "reports"] [false, false, false, false, false, false] F_fit_values :=
  ⟨f, fd, fn_ok F sc_fit_values rfl rfl fun cdv A outer s H E hr =>
    have ft := fitE (P := P) (w := w) (K := K) (mg := mg) (base := base) (N := ["net", "liars", "start", "end", "values", "reports", "found", "value", "lot"]) (qual := "fit_values") (scope := defScope s_fit_values) (f := f) (cd := cdv) (A := A) (outer := outer) (s := s) (H := H) (E := E)
    (xs_cons (s_set (i := 6) sc_fit_values.nd rfl (by first | exact .inl rfl | exact .inr rfl) (x_lst xa_nil))
 (xs_cons (s_for powE rfl (xi_rng1 rfl Z.range_ (xa_cons (x_name (i := 4)) xa_nil)) (g_name (i := 7) sc_fit_values.nd rfl (by first | exact .inl rfl | exact .inr rfl))
 (xs_one (s_if (xt_val (y_blt (f_any ft) rfl Z.any_ (xa_cons (x_lc (own := [("lot", 8)]) (ft).K (ft).calm sc_fit_values.nd (xi_seq (ft).K (x_name (i := 1))) (blkOk_by (by rfl)) (fun _ _ _ _ _ => (g_name (i := 8) sc_fit_values.nd rfl (by first | exact .inl rfl | exact .inr rfl))) (fun _ _ _ _ _ => xts_nil) (fun _ _ _ _ _ => (x_callO (Fit.blk ft) O_explains hr rfl (xa_cons (x_fz (x_name (i := 0))) (xa_cons (x_fz (x_name (i := 2))) (xa_cons (x_fz (x_name (i := 3))) (xa_cons (x_fz (x_name (i := 5))) (xa_cons (x_fz (x_name (i := 7))) (xa_cons (x_fz (x_name (i := 8))) xa_nil)))))))) (by decide)) xa_nil)))
 (xs_one (s_expr (x_append (i := 6) rfl (by first | exact .inl rfl | exact .inr (.inl rfl) | exact .inr (.inr rfl)) (x_fz (x_name (i := 7))))))
 xs_nil)))
 (xs_one (s_ret (y_typ (f_tuple ft) rfl Z.tuple_ (xa_cons (x_name (i := 6)) xa_nil)))))), hm, F.kp, bindsE F (fun kV doc pm an cdv ct j us ws _ h2 h3 => bs6 (B := fun j us ws => bindArgs (PySem.W.fnOf "fit_values" "fit_values" (defArgs s_fit_values) (defBody s_fit_values) (defScope s_fit_values) .none kV doc pm an cdv ct) ⟨us, ((["net", "liars", "start", "end", "values", "reports"] : List Str).drop j).zip ws⟩ = pure ((["net", "liars", "start", "end", "values", "reports"] : List Str).zip (us ++ ws))) (by intros; rfl) (by intros; rfl) (by intros; rfl) (by intros; rfl) (by intros; rfl) (by intros; rfl) (by intros; rfl) j us ws h2 h3)⟩
abbrev s_hop_answer : Stmt := topS 7
theorem sc_hop_answer : FnScope ["net", "liars", "start", "end", "values", "most", "reports", "rows", "fit", "row"] ["net", "liars", "start", "end", "values", "most", "reports"] (defScope s_hop_answer) := ⟨rfl, rfl, rfl, by decide +kernel, rfl, by decide +kernel, by decide +kernel⟩
def b_hop_answer_1 : FE := (fFz (fName 9))
def b_hop_answer_2 : FT := (fB (fOp2 sLe (fCall sLen (faCons (fOp2 sIx (fName 9) (fC (.int 0))) faNil)) (fOp2 sAdd (fName 5) (fC (.int 1)))))
def b_hop_answer_3 : FS := (fRet (fIf (fB (fOp2 sEq (fCall sLen (faCons (fName 8) faNil)) (fC (.int 1)))) (fOp2 sIx (fName 8) (fC (.int 0))) (fC .non)))
def b_hop_answer_4 : FS := fSeq (fAsg (fCallU [false, false, false, false, false, false] F_fit_values (faCons (fFz (fName 0)) (faCons (fFz (fName 1)) (faCons (fFz (fName 2)) (faCons (fFz (fName 3)) (faCons (fFz (fName 4)) (faCons (fFz (fName 7)) faNil))))))) (gSet 8)) b_hop_answer_3
def b_hop_answer_5 : FS := fSeq (fSeq (fAsg (fLC (fiSeq (fName 6)) (gSet 9) b_hop_answer_2 b_hop_answer_1 [9]) (gSet 7)) (frzS 7)) b_hop_answer_4
def F_hop_answer : List D → CO := runF [false, false, false, false, false, false, false] 10 b_hop_answer_5
theorem own_hop_answer (Z : Zs mg) {f : Addr} {fd : FuncData} (F : Fun K "hop_answer" "hop_answer" s_hop_answer f fd) (hm : mg "hop_answer" = some (.ref f)) (O_fit_values : Own P w K mg base 3 "fit_values" ["net", "liars", "start", "end", "values", "reports"] [false, false, false, false, false, false] F_fit_values) : Own P w K mg base 4 "hop_answer" ["net", "liars", "start", "end", "values", "most", "reports"] [false, false, false, false, false, false, false] F_hop_answer :=
  ⟨f, fd, fn_ok F sc_hop_answer rfl rfl fun cdv A outer s H E hr =>
    have ft := fitE (P := P) (w := w) (K := K) (mg := mg) (base := base) (N := ["net", "liars", "start", "end", "values", "most", "reports", "rows", "fit", "row"]) (qual := "hop_answer") (scope := defScope s_hop_answer) (f := f) (cd := cdv) (A := A) (outer := outer) (s := s) (H := H) (E := E)
    (xs_cons (s_frz 7 (ft).K (s_setLc (i := 7) (own := [("row", 9)]) (ft).calm sc_hop_answer.nd rfl rfl (xi_seq (ft).K (x_name (i := 6))) (blkOk_by (by rfl)) (fun _ _ _ _ _ => (g_name (i := 9) sc_hop_answer.nd rfl (by first | exact .inl rfl | exact .inr rfl))) (fun _ _ _ _ _ => (xts_one (yt_cmp (c_le (Fit.blk ft)) (y_blt (f_len (Fit.blk ft)) rfl Z.len_ (xa_cons (y_ix (Fit.blk ft) (x_name (i := 9)) x_int) xa_nil)) (y_bin (b_add (Fit.blk ft)) (x_name (i := 5)) x_int)))) (fun _ _ _ _ _ => (x_fz (x_name (i := 9)))) (by decide)))
 (xs_cons (s_set (i := 8) sc_hop_answer.nd rfl (by first | exact .inl rfl | exact .inr rfl) (x_callO ft O_fit_values hr rfl (xa_cons (x_fz (x_name (i := 0))) (xa_cons (x_fz (x_name (i := 1))) (xa_cons (x_fz (x_name (i := 2))) (xa_cons (x_fz (x_name (i := 3))) (xa_cons (x_fz (x_name (i := 4))) (xa_cons (x_fz (x_name (i := 7))) xa_nil))))))))
 (xs_one (s_ret (x_if (yt_cmp (c_eq ft hr) (y_blt (f_len ft) rfl Z.len_ (xa_cons (x_name (i := 8)) xa_nil)) x_int) (y_ix ft (x_name (i := 8)) x_int) x_non))))), hm, F.kp, bindsE F (fun kV doc pm an cdv ct j us ws _ h2 h3 => bs7 (B := fun j us ws => bindArgs (PySem.W.fnOf "hop_answer" "hop_answer" (defArgs s_hop_answer) (defBody s_hop_answer) (defScope s_hop_answer) .none kV doc pm an cdv ct) ⟨us, ((["net", "liars", "start", "end", "values", "most", "reports"] : List Str).drop j).zip ws⟩ = pure ((["net", "liars", "start", "end", "values", "most", "reports"] : List Str).zip (us ++ ws))) (by intros; rfl) (by intros; rfl) (by intros; rfl) (by intros; rfl) (by intros; rfl) (by intros; rfl) (by intros; rfl) (by intros; rfl) j us ws h2 h3)⟩
abbrev s__law_take : Stmt := topS 9
theorem sc__law_take : FnScope ["box", "many", "digit", "raw"] ["box", "many"] (defScope s__law_take) := ⟨rfl, rfl, rfl, by decide +kernel, rfl, by decide +kernel, by decide +kernel⟩
def b__law_take_1 : FS := (fRet (fMv (fName 2)))
def b__law_take_2 : FS := fSeq (fAsg (fOp2 sDiv (fOp2 sIx (fName 0) (fC (.int 0))) (fName 1)) (gStore 0 (fC (.int 0)))) b__law_take_1
def b__law_take_3 : FS := fSeq (fAsg (fOp2 sMod (fCall sInt (faCons (fOp2 sIx (fName 0) (fC (.int 0))) faNil)) (fName 1)) (gSet 2)) b__law_take_2
def b__law_take_4 : FS := (fRet (fOp2 sMod (fCall sInt (faCons (fOp2 sDiv (fOp2 sAdd (fOp2 sMul (fName 3) (fC (.int 2147483629))) (fOp2 sIx (fName 0) (fC (.int 1)))) (fC (.int 8209))) faNil)) (fName 1)))
def b__law_take_5 : FS := fSeq (fAsg (fOp2 sAdd (fOp2 sMod (fCall sInt (faCons (fOp2 sAdd (fOp2 sMul (fName 3) (fC (.int 40692))) (fC (.int 43))) faNil)) (fC (.int 2147483399))) (fC (.int 1))) (gStore 0 (fC (.int 1)))) b__law_take_4
def b__law_take_6 : FS := fSeq (fAsg (fOp2 sMod (fCall sInt (faCons (fOp2 sAdd (fOp2 sMul (fOp2 sIx (fName 0) (fC (.int 1))) (fC (.int 39373))) (fC (.int 419))) faNil)) (fC (.int 2147483647))) (gSet 3)) b__law_take_5
def b__law_take_7 : FS := fSeq (fIfS (fB (fOp2 sGt (fOp2 sIx (fName 0) (fC (.int 0))) (fC (.int 0)))) b__law_take_3 fNx) b__law_take_6
def F__law_take : List D → CO := runF [true, false] 4 b__law_take_7
theorem own__law_take (Z : Zs mg) {f : Addr} {fd : FuncData} (F : Fun K "_law_take" "_law_take" s__law_take f fd) (hm : mg "_law_take" = some (.ref f)) : Own P w K mg base 1 "_law_take" ["box", "many"] [true, false] F__law_take :=
  ⟨f, fd, fn_ok F sc__law_take rfl rfl fun cdv A outer s H E hr =>
    have ft := fitE (P := P) (w := w) (K := K) (mg := mg) (base := base) (N := ["box", "many", "digit", "raw"]) (qual := "_law_take") (scope := defScope s__law_take) (f := f) (cd := cdv) (A := A) (outer := outer) (s := s) (H := H) (E := E)
    (xs_cons (s_if (yt_cmp (c_gt ft) (y_ix ft (x_name (i := 0)) x_int) x_int)
 (xs_cons (s_set (i := 2) sc__law_take.nd rfl (by first | exact .inl rfl | exact .inr rfl) (y_bin (b_mod ft) (y_typ (f_int ft) rfl Z.int_ (xa_cons (y_ix ft (x_name (i := 0)) x_int) xa_nil)) (x_name (i := 1))))
 (xs_cons (s_asg (y_bin (b_div ft) (y_ix ft (x_name (i := 0)) x_int) (x_name (i := 1))) (g_store (i := 0) rfl (by first | exact .inl rfl | exact .inr (.inl rfl)) x_int))
 (xs_one (s_ret (x_mv (x_name (i := 2)))))))
 xs_nil)
 (xs_cons (s_set (i := 3) sc__law_take.nd rfl (by first | exact .inl rfl | exact .inr rfl) (y_bin (b_mod ft) (y_typ (f_int ft) rfl Z.int_ (xa_cons (y_bin (b_add ft) (y_bin (b_mul ft) (y_ix ft (x_name (i := 0)) x_int) x_int) x_int) xa_nil)) x_int))
 (xs_cons (s_asg (y_bin (b_add ft) (y_bin (b_mod ft) (y_typ (f_int ft) rfl Z.int_ (xa_cons (y_bin (b_add ft) (y_bin (b_mul ft) (x_name (i := 3)) x_int) x_int) xa_nil)) x_int) x_int) (g_store (i := 0) rfl (by first | exact .inl rfl | exact .inr (.inl rfl)) x_int))
 (xs_one (s_ret (y_bin (b_mod ft) (y_typ (f_int ft) rfl Z.int_ (xa_cons (y_bin (b_div ft) (y_bin (b_add ft) (y_bin (b_mul ft) (x_name (i := 3)) x_int) (y_ix ft (x_name (i := 0)) x_int)) x_int) xa_nil)) (x_name (i := 1)))))))), hm, F.kp, bindsE F (fun kV doc pm an cdv ct j us ws _ h2 h3 => bs2 (B := fun j us ws => bindArgs (PySem.W.fnOf "_law_take" "_law_take" (defArgs s__law_take) (defBody s__law_take) (defScope s__law_take) .none kV doc pm an cdv ct) ⟨us, ((["box", "many"] : List Str).drop j).zip ws⟩ = pure ((["box", "many"] : List Str).zip (us ++ ws))) (by intros; rfl) (by intros; rfl) (by intros; rfl) j us ws h2 h3)⟩
abbrev s__law_pick : Stmt := topS 10
theorem sc__law_pick : FnScope ["box", "some"] ["box", "some"] (defScope s__law_pick) := ⟨rfl, rfl, rfl, by decide +kernel, rfl, by decide +kernel, by decide +kernel⟩
def b__law_pick_1 : FS := (fRet (fOp2 sIx (fName 1) (fCallU [true, false] F__law_take (faCons (fName 0) (faCons (fCall sLen (faCons (fName 1) faNil)) faNil)))))
def F__law_pick : List D → CO := runF [true, false] 2 b__law_pick_1
theorem own__law_pick (Z : Zs mg) {f : Addr} {fd : FuncData} (F : Fun K "_law_pick" "_law_pick" s__law_pick f fd) (hm : mg "_law_pick" = some (.ref f)) (O__law_take : Own P w K mg base 1 "_law_take" ["box", "many"] [true, false] F__law_take) : Own P w K mg base 2 "_law_pick" ["box", "some"] [true, false] F__law_pick :=
  ⟨f, fd, fn_ok F sc__law_pick rfl rfl fun cdv A outer s H E hr =>
    have ft := fitE (P := P) (w := w) (K := K) (mg := mg) (base := base) (N := ["box", "some"]) (qual := "_law_pick") (scope := defScope s__law_pick) (f := f) (cd := cdv) (A := A) (outer := outer) (s := s) (H := H) (E := E)
    (xs_one (s_ret (y_ix ft (x_name (i := 1)) (x_callO ft O__law_take hr rfl (xa_cons (x_name (i := 0)) (xa_cons (y_blt (f_len ft) rfl Z.len_ (xa_cons (x_name (i := 1)) xa_nil)) xa_nil)))))), hm, F.kp, bindsE F (fun kV doc pm an cdv ct j us ws _ h2 h3 => bs2 (B := fun j us ws => bindArgs (PySem.W.fnOf "_law_pick" "_law_pick" (defArgs s__law_pick) (defBody s__law_pick) (defScope s__law_pick) .none kV doc pm an cdv ct) ⟨us, ((["box", "some"] : List Str).drop j).zip ws⟩ = pure ((["box", "some"] : List Str).zip (us ++ ws))) (by intros; rfl) (by intros; rfl) (by intros; rfl) j us ws h2 h3)⟩
abbrev s__law_like : Stmt := topS 11
theorem sc__law_like : FnScope ["told", "due", "left", "turn", "one", "two"] ["told", "due"] (defScope s__law_like) := ⟨rfl, rfl, rfl, by decide +kernel, rfl, by decide +kernel, by decide +kernel⟩
def b__law_like_1 : FS := (fRet (fC (.bl true)))
def b__law_like_2 : FS := (fRet (fC (.bl false)))
def b__law_like_3 : FS := (fIfS (fB (fOp1 (sIsN true) (fName 4))) b__law_like_2 fNx)
def b__law_like_4 : FS := (fRet (fC (.bl false)))
def b__law_like_5 : FS := (fIfS (ftOr (ftNot (fB (fIsI "bool" (fName 4)))) (fB (fOp2 sNe (fName 4) (fName 5)))) b__law_like_4 fNx)
def b__law_like_6 : FS := (fRet (fC (.bl false)))
def b__law_like_7 : FS := (fDrop (fExt 2 (fCall sLZ (faCons (fName 4) (faCons (fName 5) faNil)))))
def b__law_like_8 : FS := fSeq (fIfS (ftOr (ftNot (fB (fIsI "tuple" (fName 4)))) (fB (fOp2 sNe (fCall sLen (faCons (fName 4) faNil)) (fCall sLen (faCons (fName 5) faNil))))) b__law_like_6 fNx) b__law_like_7
def b__law_like_9 : FS := (fRet (fC (.bl false)))
def b__law_like_10 : FS := (fIfS (ftOr (ftNot (fB (fIsI "str" (fName 4)))) (fB (fOp2 sNe (fName 4) (fName 5)))) b__law_like_9 fNx)
def b__law_like_11 : FS := (fRet (fC (.bl false)))
def b__law_like_12 : FS := (fIfS (ftOr (ftNot (fB (fIsI "int" (fName 4)))) (ftOr (fB (fIsI "bool" (fName 4))) (fB (fOp2 sNe (fName 4) (fName 5))))) b__law_like_11 fNx)
def b__law_like_13 : FS := (fIfS (fB (fIsI "str" (fName 5))) b__law_like_10 b__law_like_12)
def b__law_like_14 : FS := (fIfS (fB (fIsI "tuple" (fName 5))) b__law_like_8 b__law_like_13)
def b__law_like_15 : FS := (fIfS (fB (fIsI "bool" (fName 5))) b__law_like_5 b__law_like_14)
def b__law_like_16 : FS := (fIfS (fB (fOp1 (sIsN false) (fName 5))) b__law_like_3 b__law_like_15)
def b__law_like_17 : FS := fSeq (fAsg (fPop 2) (gTup [(gSet 4), (gSet 5)])) b__law_like_16
def b__law_like_18 : FS := fSeq (fIfS (fB (fOp2 sEq (fName 2) (fLst faNil))) b__law_like_1 fNx) b__law_like_17
def b__law_like_19 : FS := (fRet (fC (.bl false)))
def b__law_like_20 : FS := fSeq (fFor (fiRng1 (faCons (fC (.int 1000000)) faNil)) (gSet 3) b__law_like_18) b__law_like_19
def b__law_like_21 : FS := fSeq (fAsg (fLst (faCons (fTup (faCons (fFz (fName 0)) (faCons (fFz (fName 1)) faNil))) faNil)) (gSet 2)) b__law_like_20
def F__law_like : List D → CO := runF [false, false] 6 b__law_like_21
theorem own__law_like (Z : Zs mg) {f : Addr} {fd : FuncData} (F : Fun K "_law_like" "_law_like" s__law_like f fd) (hm : mg "_law_like" = some (.ref f)) : Own P w K mg base 1 "_law_like" ["told", "due"] [false, false] F__law_like :=
  ⟨f, fd, fn_ok F sc__law_like rfl rfl fun cdv A outer s H E hr =>
    have ft := fitE (P := P) (w := w) (K := K) (mg := mg) (base := base) (N := ["told", "due", "left", "turn", "one", "two"]) (qual := "_law_like") (scope := defScope s__law_like) (f := f) (cd := cdv) (A := A) (outer := outer) (s := s) (H := H) (E := E)
    (xs_cons (s_set (i := 2) sc__law_like.nd rfl (by first | exact .inl rfl | exact .inr rfl) (x_lst (xa_cons (x_tup (xa_cons (x_fz (x_name (i := 0))) (xa_cons (x_fz (x_name (i := 1))) xa_nil))) xa_nil)))
 (xs_cons (s_for powE rfl (xi_rng1 rfl Z.range_ (xa_cons x_int xa_nil)) (g_name (i := 3) sc__law_like.nd rfl (by first | exact .inl rfl | exact .inr rfl))
 (xs_cons (s_if (yt_cmp (c_eq ft hr) (x_name (i := 2)) (x_lst xa_nil))
 (xs_one (s_ret x_bl))
 xs_nil)
 (xs_cons (s_asg (x_pop (i := 2) rfl (by first | exact .inl rfl | exact .inr (.inl rfl) | exact .inr (.inr rfl))) (g_tup (ft).calm (ft).K (gs_cons (g_name (i := 4) sc__law_like.nd rfl (by first | exact .inl rfl | exact .inr rfl)) (gs_cons (g_name (i := 5) sc__law_like.nd rfl (by first | exact .inl rfl | exact .inr rfl)) gs_nil))))
 (xs_one (s_if (xt_isN (x_name (i := 5)))
 (xs_one (s_if (xt_notN (x_name (i := 4)))
 (xs_one (s_ret x_bl))
 xs_nil))
 (xs_one (s_if (xt_val (x_isI (T := "bool") (ft).K rfl Z.isinstance_ rfl Z.bool_ (by decide +kernel) (x_name (i := 5))))
 (xs_one (s_if (xt_w (xw_or (xt_not (xt_val (x_isI (T := "bool") (ft).K rfl Z.isinstance_ rfl Z.bool_ (by decide +kernel) (x_name (i := 4))))) (xw_or1 (yt_cmp (c_ne ft hr) (x_name (i := 4)) (x_name (i := 5))))))
 (xs_one (s_ret x_bl))
 xs_nil))
 (xs_one (s_if (xt_val (x_isI (T := "tuple") (ft).K rfl Z.isinstance_ rfl Z.tuple_ (by decide +kernel) (x_name (i := 5))))
 (xs_cons (s_if (xt_w (xw_or (xt_not (xt_val (x_isI (T := "tuple") (ft).K rfl Z.isinstance_ rfl Z.tuple_ (by decide +kernel) (x_name (i := 4))))) (xw_or1 (yt_cmp (c_ne ft hr) (y_blt (f_len ft) rfl Z.len_ (xa_cons (x_name (i := 4)) xa_nil)) (y_blt (f_len ft) rfl Z.len_ (xa_cons (x_name (i := 5)) xa_nil))))))
 (xs_one (s_ret x_bl))
 xs_nil)
 (xs_one (s_expr (x_extend (i := 2) rfl (by first | exact .inl rfl | exact .inr (.inl rfl) | exact .inr (.inr rfl)) (ft).K (x_lz (ft).K rfl Z.list_ rfl Z.zip_ (ft).calm (xa_cons (x_name (i := 4)) (xa_cons (x_name (i := 5)) xa_nil)))))))
 (xs_one (s_if (xt_val (x_isI (T := "str") (ft).K rfl Z.isinstance_ rfl Z.str_ (by decide +kernel) (x_name (i := 5))))
 (xs_one (s_if (xt_w (xw_or (xt_not (xt_val (x_isI (T := "str") (ft).K rfl Z.isinstance_ rfl Z.str_ (by decide +kernel) (x_name (i := 4))))) (xw_or1 (yt_cmp (c_ne ft hr) (x_name (i := 4)) (x_name (i := 5))))))
 (xs_one (s_ret x_bl))
 xs_nil))
 (xs_one (s_if (xt_w (xw_or (xt_not (xt_val (x_isI (T := "int") (ft).K rfl Z.isinstance_ rfl Z.int_ (by decide +kernel) (x_name (i := 4))))) (xw_or (xt_val (x_isI (T := "bool") (ft).K rfl Z.isinstance_ rfl Z.bool_ (by decide +kernel) (x_name (i := 4)))) (xw_or1 (yt_cmp (c_ne ft hr) (x_name (i := 4)) (x_name (i := 5)))))))
 (xs_one (s_ret x_bl))
 xs_nil)))))))))))))
 (xs_one (s_ret x_bl)))), hm, F.kp, bindsE F (fun kV doc pm an cdv ct j us ws _ h2 h3 => bs2 (B := fun j us ws => bindArgs (PySem.W.fnOf "_law_like" "_law_like" (defArgs s__law_like) (defBody s__law_like) (defScope s__law_like) .none kV doc pm an cdv ct) ⟨us, ((["told", "due"] : List Str).drop j).zip ws⟩ = pure ((["told", "due"] : List Str).zip (us ++ ws))) (by intros; rfl) (by intros; rfl) (by intros; rfl) j us ws h2 h3)⟩
abbrev s__law_within : Stmt := topS 12
theorem sc__law_within : FnScope ["one", "two", "house"] ["one", "two"] (defScope s__law_within) := ⟨rfl, rfl, rfl, by decide +kernel, rfl, by decide +kernel, by decide +kernel⟩
def b__law_within_1 : FE := (fC (.int 1))
def b__law_within_2 : FT := (fB (fOp2 (sIn true) (fName 2) (fName 1)))
def b__law_within_3 : FS := (fRet (fOp2 sEq (fLC (fiSeq (fName 0)) (gSet 2) b__law_within_2 b__law_within_1 [2]) (fLst faNil)))
def F__law_within : List D → CO := runF [false, false] 3 b__law_within_3
theorem own__law_within (Z : Zs mg) {f : Addr} {fd : FuncData} (F : Fun K "_law_within" "_law_within" s__law_within f fd) (hm : mg "_law_within" = some (.ref f)) : Own P w K mg base 1 "_law_within" ["one", "two"] [false, false] F__law_within :=
  ⟨f, fd, fn_ok F sc__law_within rfl rfl fun cdv A outer s H E hr =>
    have ft := fitE (P := P) (w := w) (K := K) (mg := mg) (base := base) (N := ["one", "two", "house"]) (qual := "_law_within") (scope := defScope s__law_within) (f := f) (cd := cdv) (A := A) (outer := outer) (s := s) (H := H) (E := E)
    (xs_one (s_ret (y_cmp (c_eq ft hr) (x_lc (own := [("house", 2)]) (ft).K (ft).calm sc__law_within.nd (xi_seq (ft).K (x_name (i := 0))) (blkOk_by (by rfl)) (fun _ _ _ _ _ => (g_name (i := 2) sc__law_within.nd rfl (by first | exact .inl rfl | exact .inr rfl))) (fun _ _ _ _ _ => (xts_one (yt_cmp (c_notIn (Fit.blk ft) hr) (x_name (i := 2)) (x_name (i := 1))))) (fun _ _ _ _ _ => x_int) (by decide)) (x_lst xa_nil)))), hm, F.kp, bindsE F (fun kV doc pm an cdv ct j us ws _ h2 h3 => bs2 (B := fun j us ws => bindArgs (PySem.W.fnOf "_law_within" "_law_within" (defArgs s__law_within) (defBody s__law_within) (defScope s__law_within) .none kV doc pm an cdv ct) ⟨us, ((["one", "two"] : List Str).drop j).zip ws⟩ = pure ((["one", "two"] : List Str).zip (us ++ ws))) (by intros; rfl) (by intros; rfl) (by intros; rfl) j us ws h2 h3)⟩
abbrev s__law_greatest : Stmt := topS 13
theorem sc__law_greatest : FnScope ["lots", "unlike", "one", "two"] ["lots"] (defScope s__law_greatest) := ⟨rfl, rfl, rfl, by decide +kernel, rfl, by decide +kernel, by decide +kernel⟩
def b__law_greatest_1 : FE := (fC (.int 1))
def b__law_greatest_2 : FT := (ftAnd (fB (fOp2 sNe (fName 2) (fName 3))) (fB (fCallU [false, false] F__law_within (faCons (fFz (fName 2)) (faCons (fFz (fName 3)) faNil)))))
def b__law_greatest_3 : FE := (fFz (fName 2))
def b__law_greatest_4 : FT := (fB (fOp2 sEq (fLC (fiSeq (fName 1)) (gSet 3) b__law_greatest_2 b__law_greatest_1 [3]) (fLst faNil)))
def b__law_greatest_5 : FS := (fRet (fCall sTuple (faCons (fLC (fiSeq (fName 1)) (gSet 2) b__law_greatest_4 b__law_greatest_3 [2]) faNil)))
def b__law_greatest_6 : FS := fSeq (fAsg (fFz (fCall sSetT (faCons (fName 0) faNil))) (gSet 1)) b__law_greatest_5
def F__law_greatest : List D → CO := runF [false] 4 b__law_greatest_6
theorem own__law_greatest (Z : Zs mg) {f : Addr} {fd : FuncData} (F : Fun K "_law_greatest" "_law_greatest" s__law_greatest f fd) (hm : mg "_law_greatest" = some (.ref f)) (O__law_within : Own P w K mg base 1 "_law_within" ["one", "two"] [false, false] F__law_within) : Own P w K mg base 2 "_law_greatest" ["lots"] [false] F__law_greatest :=
  ⟨f, fd, fn_ok F sc__law_greatest rfl rfl fun cdv A outer s H E hr =>
    have ft := fitE (P := P) (w := w) (K := K) (mg := mg) (base := base) (N := ["lots", "unlike", "one", "two"]) (qual := "_law_greatest") (scope := defScope s__law_greatest) (f := f) (cd := cdv) (A := A) (outer := outer) (s := s) (H := H) (E := E)
    (xs_cons (s_set (i := 1) sc__law_greatest.nd rfl (by first | exact .inl rfl | exact .inr rfl) (x_fz (x_setT ft hr rfl Z.sorted_ rfl Z.set_ (xa_cons (x_name (i := 0)) xa_nil))))
 (xs_one (s_ret (y_typ (f_tuple ft) rfl Z.tuple_ (xa_cons (x_lc (own := [("one", 2)]) (ft).K (ft).calm sc__law_greatest.nd (xi_seq (ft).K (x_name (i := 1))) (blkOk_by (by rfl)) (fun _ _ _ _ _ => (g_name (i := 2) sc__law_greatest.nd rfl (by first | exact .inl rfl | exact .inr rfl))) (fun _ _ _ _ _ => (xts_one (yt_cmp (c_eq (Fit.blk ft) hr) (x_lc (own := [("two", 3)]) ((Fit.blk ft)).K ((Fit.blk ft)).calm sc__law_greatest.nd (xi_seq ((Fit.blk ft)).K (x_name (i := 1))) (blkOk_by (by rfl)) (fun _ _ _ _ _ => (g_name (i := 3) sc__law_greatest.nd rfl (by first | exact .inl rfl | exact .inr rfl))) (fun _ _ _ _ _ => (xts_one (xt_w (xw_and (yt_cmp (c_ne (Fit.blk (Fit.blk ft)) hr) (x_name (i := 2)) (x_name (i := 3))) (xw_and1 (xt_val (x_callO (Fit.blk (Fit.blk ft)) O__law_within hr rfl (xa_cons (x_fz (x_name (i := 2))) (xa_cons (x_fz (x_name (i := 3))) xa_nil))))))))) (fun _ _ _ _ _ => x_int) (by decide)) (x_lst xa_nil)))) (fun _ _ _ _ _ => (x_fz (x_name (i := 2)))) (by decide)) xa_nil))))), hm, F.kp, bindsE F (fun kV doc pm an cdv ct j us ws _ h2 h3 => bs1 (B := fun j us ws => bindArgs (PySem.W.fnOf "_law_greatest" "_law_greatest" (defArgs s__law_greatest) (defBody s__law_greatest) (defScope s__law_greatest) .none kV doc pm an cdv ct) ⟨us, ((["lots"] : List Str).drop j).zip ws⟩ = pure ((["lots"] : List Str).zip (us ++ ws))) (by intros; rfl) (by intros; rfl) j us ws h2 h3)⟩
abbrev s__law_drawn_lot : Stmt := topS 14
theorem sc__law_drawn_lot : FnScope ["box", "houses", "part", "house"] ["box", "houses", "part"] (defScope s__law_drawn_lot) := ⟨rfl, rfl, rfl, by decide +kernel, rfl, by decide +kernel, by decide +kernel⟩
def b__law_drawn_lot_1 : FE := (fFz (fName 3))
def b__law_drawn_lot_2 : FT := (fB (fOp2 sEq (fCallU [true, false] F__law_take (faCons (fName 0) (faCons (fFz (fName 2)) faNil))) (fC (.int 0))))
def b__law_drawn_lot_3 : FS := (fRet (fCall sTuple (faCons (fLC (fiSeq (fName 1)) (gSet 3) b__law_drawn_lot_2 b__law_drawn_lot_1 [3]) faNil)))
def F__law_drawn_lot : List D → CO := runF [true, false, false] 4 b__law_drawn_lot_3
theorem own__law_drawn_lot (Z : Zs mg) {f : Addr} {fd : FuncData} (F : Fun K "_law_drawn_lot" "_law_drawn_lot" s__law_drawn_lot f fd) (hm : mg "_law_drawn_lot" = some (.ref f)) (O__law_take : Own P w K mg base 1 "_law_take" ["box", "many"] [true, false] F__law_take) : Own P w K mg base 2 "_law_drawn_lot" ["box", "houses", "part"] [true, false, false] F__law_drawn_lot :=
  ⟨f, fd, fn_ok F sc__law_drawn_lot rfl rfl fun cdv A outer s H E hr =>
    have ft := fitE (P := P) (w := w) (K := K) (mg := mg) (base := base) (N := ["box", "houses", "part", "house"]) (qual := "_law_drawn_lot") (scope := defScope s__law_drawn_lot) (f := f) (cd := cdv) (A := A) (outer := outer) (s := s) (H := H) (E := E)
    (xs_one (s_ret (y_typ (f_tuple ft) rfl Z.tuple_ (xa_cons (x_lc (own := [("house", 3)]) (ft).K (ft).calm sc__law_drawn_lot.nd (xi_seq (ft).K (x_name (i := 1))) (blkOk_by (by rfl)) (fun _ _ _ _ _ => (g_name (i := 3) sc__law_drawn_lot.nd rfl (by first | exact .inl rfl | exact .inr rfl))) (fun _ _ _ _ _ => (xts_one (yt_cmp (c_eq (Fit.blk ft) hr) (x_callO (Fit.blk ft) O__law_take hr rfl (xa_cons (x_name (i := 0)) (xa_cons (x_fz (x_name (i := 2))) xa_nil))) x_int))) (fun _ _ _ _ _ => (x_fz (x_name (i := 3)))) (by decide)) xa_nil)))), hm, F.kp, bindsE F (fun kV doc pm an cdv ct j us ws _ h2 h3 => bs3 (B := fun j us ws => bindArgs (PySem.W.fnOf "_law_drawn_lot" "_law_drawn_lot" (defArgs s__law_drawn_lot) (defBody s__law_drawn_lot) (defScope s__law_drawn_lot) .none kV doc pm an cdv ct) ⟨us, ((["box", "houses", "part"] : List Str).drop j).zip ws⟩ = pure ((["box", "houses", "part"] : List Str).zip (us ++ ws))) (by intros; rfl) (by intros; rfl) (by intros; rfl) (by intros; rfl) j us ws h2 h3)⟩
abbrev s__law_liars : Stmt := topS 15
theorem sc__law_liars : FnScope ["box", "many", "houses", "way", "size", "found", "house", "lots", "turn", "one"] ["box", "many"] (defScope s__law_liars) := ⟨rfl, rfl, rfl, by decide +kernel, rfl, by decide +kernel, by decide +kernel⟩
def b__law_liars_1 : FS := (fRet (fTup (faCons (fTup faNil) faNil)))
def b__law_liars_2 : FE := (fOp2 sAdd (fName 9) (fTup (faCons (fFz (fName 6)) faNil)))
def b__law_liars_3 : FT := (fB (fOp2 sLt (fCall sLen (faCons (fName 9) faNil)) (fName 4)))
def b__law_liars_4 : FS := (fAsg (fFz (fOp2 sAdd (fName 5) (fLC (fiSeq (fName 5)) (gSet 9) b__law_liars_3 b__law_liars_2 [9]))) (gSet 5))
def b__law_liars_5 : FE := (fFz (fName 9))
def b__law_liars_6 : FT := (fB (fOp2 sEq (fCall sLen (faCons (fName 9) faNil)) (fName 4)))
def b__law_liars_7 : FS := (fRet (fCallU [false] F__law_greatest (faCons (fFz (fSl (fLC (fiSeq (fName 5)) (gSet 9) b__law_liars_6 b__law_liars_5 [9]) foNo (foSome (fC (.int 40))))) faNil)))
def b__law_liars_8 : FS := fSeq (fFor (fiSeq (fName 2)) (gSet 6) b__law_liars_4) b__law_liars_7
def b__law_liars_9 : FS := fSeq (fAsg (fFz (fLst (faCons (fTup faNil) faNil))) (gSet 5)) b__law_liars_8
def b__law_liars_10 : FS := fSeq (fAsg (fCallU [true, false] F__law_take (faCons (fName 0) (faCons (fOp2 sAdd (fName 1) (fC (.int 1))) faNil))) (gSet 4)) b__law_liars_9
def b__law_liars_11 : FE := (fCallU [true, false, false] F__law_drawn_lot (faCons (fName 0) (faCons (fFz (fName 2)) (faCons (fCallU [true, false] F__law_pick (faCons (fName 0) (faCons (fFz (fLst (faCons (fC (.int 2)) (faCons (fC (.int 3)) (faCons (fC (.int 4)) faNil))))) faNil))) faNil))))
def b__law_liars_12 : FS := (fRet (fCallU [false] F__law_greatest (faCons (fFz (fName 7)) faNil)))
def b__law_liars_13 : FS := fSeq (fSeq (fAsg (fLC (fiRng1 (faCons (fOp2 sAdd (fC (.int 1)) (fCallU [true, false] F__law_take (faCons (fName 0) (faCons (fC (.int 5)) faNil)))) faNil)) (gSet 8) fYes b__law_liars_11 [8]) (gSet 7)) (frzS 7)) b__law_liars_12
def b__law_liars_14 : FS := fSeq (fIfS (fB (fOp2 sLt (fName 3) (fC (.int 3)))) b__law_liars_10 fNx) b__law_liars_13
def b__law_liars_15 : FS := fSeq (fIfS (fB (fOp2 sEq (fName 3) (fC (.int 0)))) b__law_liars_1 fNx) b__law_liars_14
def b__law_liars_16 : FS := fSeq (fAsg (fTup (faCons (fOp1 sRgT1 (fName 1)) (faCons (fCallU [true, false] F__law_take (faCons (fName 0) (faCons (fC (.int 8)) faNil))) faNil))) (gTup [(gSet 2), (gSet 3)])) b__law_liars_15
def F__law_liars : List D → CO := runF [true, false] 10 b__law_liars_16
theorem own__law_liars (Z : Zs mg) {f : Addr} {fd : FuncData} (F : Fun K "_law_liars" "_law_liars" s__law_liars f fd) (hm : mg "_law_liars" = some (.ref f)) (O__law_greatest : Own P w K mg base 2 "_law_greatest" ["lots"] [false] F__law_greatest) (O__law_take : Own P w K mg base 1 "_law_take" ["box", "many"] [true, false] F__law_take) (O__law_drawn_lot : Own P w K mg base 2 "_law_drawn_lot" ["box", "houses", "part"] [true, false, false] F__law_drawn_lot) (O__law_pick : Own P w K mg base 2 "_law_pick" ["box", "some"] [true, false] F__law_pick) : Own P w K mg base 3 "_law_liars" ["box", "many"] [true, false] F__law_liars :=
  ⟨f, fd, fn_ok F sc__law_liars rfl rfl fun cdv A outer s H E hr =>
    have ft := fitE (P := P) (w := w) (K := K) (mg := mg) (base := base) (N := ["box", "many", "houses", "way", "size", "found", "house", "lots", "turn", "one"]) (qual := "_law_liars") (scope := defScope s__law_liars) (f := f) (cd := cdv) (A := A) (outer := outer) (s := s) (H := H) (E := E)
    (xs_cons (s_asg (x_tup (xa_cons (x_rgT1 ft rfl Z.tuple_ rfl Z.range_ (x_name (i := 1))) (xa_cons (x_callO ft O__law_take hr rfl (xa_cons (x_name (i := 0)) (xa_cons x_int xa_nil))) xa_nil))) (g_tup (ft).calm (ft).K (gs_cons (g_name (i := 2) sc__law_liars.nd rfl (by first | exact .inl rfl | exact .inr rfl)) (gs_cons (g_name (i := 3) sc__law_liars.nd rfl (by first | exact .inl rfl | exact .inr rfl)) gs_nil))))
 (xs_cons (s_if (yt_cmp (c_eq ft hr) (x_name (i := 3)) x_int)
 (xs_one (s_ret (x_tup (xa_cons (x_tup xa_nil) xa_nil))))
 xs_nil)
 (xs_cons (s_if (yt_cmp (c_lt ft) (x_name (i := 3)) x_int)
 (xs_cons (s_set (i := 4) sc__law_liars.nd rfl (by first | exact .inl rfl | exact .inr rfl) (x_callO ft O__law_take hr rfl (xa_cons (x_name (i := 0)) (xa_cons (y_bin (b_add ft) (x_name (i := 1)) x_int) xa_nil))))
 (xs_cons (s_set (i := 5) sc__law_liars.nd rfl (by first | exact .inl rfl | exact .inr rfl) (x_fz (x_lst (xa_cons (x_tup xa_nil) xa_nil))))
 (xs_cons (s_for powE rfl (xi_seq (ft).K (x_name (i := 2))) (g_name (i := 6) sc__law_liars.nd rfl (by first | exact .inl rfl | exact .inr rfl))
 (xs_one (s_set (i := 5) sc__law_liars.nd rfl (by first | exact .inl rfl | exact .inr rfl) (x_fz (y_bin (b_add ft) (x_name (i := 5)) (x_lc (own := [("one", 9)]) (ft).K (ft).calm sc__law_liars.nd (xi_seq (ft).K (x_name (i := 5))) (blkOk_by (by rfl)) (fun _ _ _ _ _ => (g_name (i := 9) sc__law_liars.nd rfl (by first | exact .inl rfl | exact .inr rfl))) (fun _ _ _ _ _ => (xts_one (yt_cmp (c_lt (Fit.blk ft)) (y_blt (f_len (Fit.blk ft)) rfl Z.len_ (xa_cons (x_name (i := 9)) xa_nil)) (x_name (i := 4))))) (fun _ _ _ _ _ => (y_bin (b_add (Fit.blk ft)) (x_name (i := 9)) (x_tup (xa_cons (x_fz (x_name (i := 6))) xa_nil)))) (by decide)))))))
 (xs_one (s_ret (x_callO ft O__law_greatest hr rfl (xa_cons (x_fz (x_slice (ft).K (x_lc (own := [("one", 9)]) (ft).K (ft).calm sc__law_liars.nd (xi_seq (ft).K (x_name (i := 5))) (blkOk_by (by rfl)) (fun _ _ _ _ _ => (g_name (i := 9) sc__law_liars.nd rfl (by first | exact .inl rfl | exact .inr rfl))) (fun _ _ _ _ _ => (xts_one (yt_cmp (c_eq (Fit.blk ft) hr) (y_blt (f_len (Fit.blk ft)) rfl Z.len_ (xa_cons (x_name (i := 9)) xa_nil)) (x_name (i := 4))))) (fun _ _ _ _ _ => (x_fz (x_name (i := 9)))) (by decide)) xo_none (xo_some x_int))) xa_nil)))))))
 xs_nil)
 (xs_cons (s_frz 7 (ft).K (s_setLc (i := 7) (own := [("turn", 8)]) (ft).calm sc__law_liars.nd rfl rfl (xi_rng1 rfl Z.range_ (xa_cons (y_bin (b_add ft) x_int (x_callO ft O__law_take hr rfl (xa_cons (x_name (i := 0)) (xa_cons x_int xa_nil)))) xa_nil)) (blkOk_by (by rfl)) (fun _ _ _ _ _ => (g_name (i := 8) sc__law_liars.nd rfl (by first | exact .inl rfl | exact .inr rfl))) (fun _ _ _ _ _ => xts_nil) (fun _ _ _ _ _ => (x_callO (Fit.blk ft) O__law_drawn_lot hr rfl (xa_cons (x_name (i := 0)) (xa_cons (x_fz (x_name (i := 2))) (xa_cons (x_callO (Fit.blk ft) O__law_pick hr rfl (xa_cons (x_name (i := 0)) (xa_cons (x_fz (x_lst (xa_cons x_int (xa_cons x_int (xa_cons x_int xa_nil))))) xa_nil))) xa_nil))))) (by decide)))
 (xs_one (s_ret (x_callO ft O__law_greatest hr rfl (xa_cons (x_fz (x_name (i := 7))) xa_nil)))))))), hm, F.kp, bindsE F (fun kV doc pm an cdv ct j us ws _ h2 h3 => bs2 (B := fun j us ws => bindArgs (PySem.W.fnOf "_law_liars" "_law_liars" (defArgs s__law_liars) (defBody s__law_liars) (defScope s__law_liars) .none kV doc pm an cdv ct) ⟨us, ((["box", "many"] : List Str).drop j).zip ws⟩ = pure ((["box", "many"] : List Str).zip (us ++ ws))) (by intros; rfl) (by intros; rfl) (by intros; rfl) j us ws h2 h3)⟩
abbrev s__law_net : Stmt := topS 16
theorem sc__law_net : FnScope ["box", "many", "mutual", "part", "ways", "one", "two"] ["box", "many", "mutual"] (defScope s__law_net) := ⟨rfl, rfl, rfl, by decide +kernel, rfl, by decide +kernel, by decide +kernel⟩
def b__law_net_1 : FS := (fAsg (fIf (fB (fName 2)) (fFz (fOp2 sAdd (fName 4) (fLst (faCons (fTup (faCons (fFz (fName 5)) (faCons (fFz (fName 6)) faNil))) (faCons (fTup (faCons (fFz (fName 6)) (faCons (fFz (fName 5)) faNil))) faNil))))) (fFz (fOp2 sAdd (fName 4) (fLst (faCons (fTup (faCons (fFz (fName 5)) (faCons (fFz (fName 6)) faNil))) faNil))))) (gSet 4))
def b__law_net_2 : FS := (fIfS (ftAnd (ftIf (fB (fName 2)) (fB (fOp2 sLt (fName 5) (fName 6))) (fB (fOp2 sNe (fName 5) (fName 6)))) (fB (fOp2 sLt (fCallU [true, false] F__law_take (faCons (fName 0) (faCons (fOp2 sIx (fName 3) (fC (.int 1))) faNil))) (fOp2 sIx (fName 3) (fC (.int 0)))))) b__law_net_1 fNx)
def b__law_net_3 : FS := (fFor (fiRng1 (faCons (fName 1) faNil)) (gSet 6) b__law_net_2)
def b__law_net_4 : FS := (fRet (fTup (faCons (fFz (fName 1)) (faCons (fCall sTuple (faCons (fCall sSortT (faCons (fName 4) faNil)) faNil)) faNil))))
def b__law_net_5 : FS := fSeq (fFor (fiRng1 (faCons (fName 1) faNil)) (gSet 5) b__law_net_3) b__law_net_4
def b__law_net_6 : FS := fSeq (fPar 3 4 (faCons (fCallU [true, false] F__law_pick (faCons (fName 0) (faCons (fFz (fLst (faCons (fTup (faCons (fC (.int 1)) (faCons (fC (.int 1)) faNil))) (faCons (fTup (faCons (fC (.int 1)) (faCons (fC (.int 2)) faNil))) (faCons (fTup (faCons (fC (.int 2)) (faCons (fC (.int 3)) faNil))) (faCons (fTup (faCons (fC (.int 1)) (faCons (fC (.int 3)) faNil))) faNil)))))) faNil))) (faCons (fFz (fLst faNil)) faNil))) b__law_net_5
def F__law_net : List D → CO := runF [true, false, false] 7 b__law_net_6
theorem own__law_net (Z : Zs mg) {f : Addr} {fd : FuncData} (F : Fun K "_law_net" "_law_net" s__law_net f fd) (hm : mg "_law_net" = some (.ref f)) (O__law_pick : Own P w K mg base 2 "_law_pick" ["box", "some"] [true, false] F__law_pick) (O__law_take : Own P w K mg base 1 "_law_take" ["box", "many"] [true, false] F__law_take) : Own P w K mg base 3 "_law_net" ["box", "many", "mutual"] [true, false, false] F__law_net :=
  ⟨f, fd, fn_ok F sc__law_net rfl rfl fun cdv A outer s H E hr =>
    have ft := fitE (P := P) (w := w) (K := K) (mg := mg) (base := base) (N := ["box", "many", "mutual", "part", "ways", "one", "two"]) (qual := "_law_net") (scope := defScope s__law_net) (f := f) (cd := cdv) (A := A) (outer := outer) (s := s) (H := H) (E := E)
    (xs_cons (s_par (i := 3) (j := 4) rfl sc__law_net.nd rfl rfl (by decide) rfl rfl (xa_cons (x_callO ft O__law_pick hr rfl (xa_cons (x_name (i := 0)) (xa_cons (x_fz (x_lst (xa_cons (x_tup (xa_cons x_int (xa_cons x_int xa_nil))) (xa_cons (x_tup (xa_cons x_int (xa_cons x_int xa_nil))) (xa_cons (x_tup (xa_cons x_int (xa_cons x_int xa_nil))) (xa_cons (x_tup (xa_cons x_int (xa_cons x_int xa_nil))) xa_nil)))))) xa_nil))) (xa_cons (x_fz (x_lst xa_nil)) xa_nil)) rfl)
 (xs_cons (s_for powE rfl (xi_rng1 rfl Z.range_ (xa_cons (x_name (i := 1)) xa_nil)) (g_name (i := 5) sc__law_net.nd rfl (by first | exact .inl rfl | exact .inr rfl))
 (xs_one (s_for powE rfl (xi_rng1 rfl Z.range_ (xa_cons (x_name (i := 1)) xa_nil)) (g_name (i := 6) sc__law_net.nd rfl (by first | exact .inl rfl | exact .inr rfl))
 (xs_one (s_if (xt_w (xw_and (xt_if (xt_val (x_name (i := 2))) (yt_cmp (c_lt ft) (x_name (i := 5)) (x_name (i := 6))) (yt_cmp (c_ne ft hr) (x_name (i := 5)) (x_name (i := 6)))) (xw_and1 (yt_cmp (c_lt ft) (x_callO ft O__law_take hr rfl (xa_cons (x_name (i := 0)) (xa_cons (y_ix ft (x_name (i := 3)) x_int) xa_nil))) (y_ix ft (x_name (i := 3)) x_int)))))
 (xs_one (s_set (i := 4) sc__law_net.nd rfl (by first | exact .inl rfl | exact .inr rfl) (x_if (xt_val (x_name (i := 2))) (x_fz (y_bin (b_add ft) (x_name (i := 4)) (x_lst (xa_cons (x_tup (xa_cons (x_fz (x_name (i := 5))) (xa_cons (x_fz (x_name (i := 6))) xa_nil))) (xa_cons (x_tup (xa_cons (x_fz (x_name (i := 6))) (xa_cons (x_fz (x_name (i := 5))) xa_nil))) xa_nil))))) (x_fz (y_bin (b_add ft) (x_name (i := 4)) (x_lst (xa_cons (x_tup (xa_cons (x_fz (x_name (i := 5))) (xa_cons (x_fz (x_name (i := 6))) xa_nil))) xa_nil)))))))
 xs_nil)))))
 (xs_one (s_ret (x_tup (xa_cons (x_fz (x_name (i := 1))) (xa_cons (y_typ (f_tuple ft) rfl Z.tuple_ (xa_cons (y_blt (f_sortT ft hr) rfl Z.sorted_ (xa_cons (x_name (i := 4)) xa_nil)) xa_nil)) xa_nil))))))), hm, F.kp, bindsE F (fun kV doc pm an cdv ct j us ws _ h2 h3 => bs3 (B := fun j us ws => bindArgs (PySem.W.fnOf "_law_net" "_law_net" (defArgs s__law_net) (defBody s__law_net) (defScope s__law_net) .none kV doc pm an cdv ct) ⟨us, ((["box", "many", "mutual"] : List Str).drop j).zip ws⟩ = pure ((["box", "many", "mutual"] : List Str).zip (us ++ ws))) (by intros; rfl) (by intros; rfl) (by intros; rfl) (by intros; rfl) j us ws h2 h3)⟩
abbrev s__law_trails : Stmt := topS 17
theorem sc__law_trails : FnScope ["net", "start", "end", "rows", "found", "turn", "longer", "row", "one", "two"] ["net", "start", "end"] (defScope s__law_trails) := ⟨rfl, rfl, rfl, by decide +kernel, rfl, by decide +kernel, by decide +kernel⟩
def b__law_trails_1 : FE := (fFz (fName 7))
def b__law_trails_2 : FT := (fB (fOp2 sEq (fOp2 sIx (fName 7) (fOp1 sNeg (fC (.int 1)))) (fName 2)))
def b__law_trails_3 : FE := (fOp2 sAdd (fName 7) (fTup (faCons (fFz (fName 9)) faNil)))
def b__law_trails_4 : FT := (ftAnd (fB (fOp2 sEq (fName 8) (fOp2 sIx (fName 7) (fOp1 sNeg (fC (.int 1)))))) (fB (fOp2 (sIn true) (fName 9) (fName 7))))
def b__law_trails_5 : FS := (fDrop (fExt 6 (fLC (fiSeq (fOp2 sIx (fName 0) (fC (.int 1)))) (gTup [(gSet 8), (gSet 9)]) b__law_trails_4 b__law_trails_3 [8, 9])))
def b__law_trails_6 : FS := (fIfS (fB (fOp2 sNe (fOp2 sIx (fName 7) (fOp1 sNeg (fC (.int 1)))) (fName 2))) b__law_trails_5 fNx)
def b__law_trails_7 : FS := (fAsg (fFz (fName 6)) (gSet 3))
def b__law_trails_8 : FS := fSeq (fFor (fiSeq (fName 3)) (gSet 7) b__law_trails_6) b__law_trails_7
def b__law_trails_9 : FS := fSeq (fAsg (fLst faNil) (gSet 6)) b__law_trails_8
def b__law_trails_10 : FS := fSeq (fAsg (fFz (fOp2 sAdd (fName 4) (fLC (fiSeq (fName 3)) (gSet 7) b__law_trails_2 b__law_trails_1 [7]))) (gSet 4)) b__law_trails_9
def b__law_trails_11 : FS := (fRet (fCall sTuple (faCons (fCall sSortT (faCons (fName 4) faNil)) faNil)))
def b__law_trails_12 : FS := fSeq (fFor (fiRng1 (faCons (fOp2 sIx (fName 0) (fC (.int 0))) faNil)) (gSet 5) b__law_trails_10) b__law_trails_11
def b__law_trails_13 : FS := fSeq (fPar 3 4 (faCons (fFz (fLst (faCons (fTup (faCons (fFz (fName 1)) faNil)) faNil))) (faCons (fFz (fLst faNil)) faNil))) b__law_trails_12
def F__law_trails : List D → CO := runF [false, false, false] 10 b__law_trails_13
theorem own__law_trails (Z : Zs mg) {f : Addr} {fd : FuncData} (F : Fun K "_law_trails" "_law_trails" s__law_trails f fd) (hm : mg "_law_trails" = some (.ref f)) : Own P w K mg base 1 "_law_trails" ["net", "start", "end"] [false, false, false] F__law_trails :=
  ⟨f, fd, fn_ok F sc__law_trails rfl rfl fun cdv A outer s H E hr =>
    have ft := fitE (P := P) (w := w) (K := K) (mg := mg) (base := base) (N := ["net", "start", "end", "rows", "found", "turn", "longer", "row", "one", "two"]) (qual := "_law_trails") (scope := defScope s__law_trails) (f := f) (cd := cdv) (A := A) (outer := outer) (s := s) (H := H) (E := E)
    (xs_cons (s_par (i := 3) (j := 4) rfl sc__law_trails.nd rfl rfl (by decide) rfl rfl (xa_cons (x_fz (x_lst (xa_cons (x_tup (xa_cons (x_fz (x_name (i := 1))) xa_nil)) xa_nil))) (xa_cons (x_fz (x_lst xa_nil)) xa_nil)) rfl)
 (xs_cons (s_for powE rfl (xi_rng1 rfl Z.range_ (xa_cons (y_ix ft (x_name (i := 0)) x_int) xa_nil)) (g_name (i := 5) sc__law_trails.nd rfl (by first | exact .inl rfl | exact .inr rfl))
 (xs_cons (s_set (i := 4) sc__law_trails.nd rfl (by first | exact .inl rfl | exact .inr rfl) (x_fz (y_bin (b_add ft) (x_name (i := 4)) (x_lc (own := [("row", 7)]) (ft).K (ft).calm sc__law_trails.nd (xi_seq (ft).K (x_name (i := 3))) (blkOk_by (by rfl)) (fun _ _ _ _ _ => (g_name (i := 7) sc__law_trails.nd rfl (by first | exact .inl rfl | exact .inr rfl))) (fun _ _ _ _ _ => (xts_one (yt_cmp (c_eq (Fit.blk ft) hr) (y_ix (Fit.blk ft) (x_name (i := 7)) (y_neg x_int)) (x_name (i := 2))))) (fun _ _ _ _ _ => (x_fz (x_name (i := 7)))) (by decide)))))
 (xs_cons (s_set (i := 6) sc__law_trails.nd rfl (by first | exact .inl rfl | exact .inr rfl) (x_lst xa_nil))
 (xs_cons (s_for powE rfl (xi_seq (ft).K (x_name (i := 3))) (g_name (i := 7) sc__law_trails.nd rfl (by first | exact .inl rfl | exact .inr rfl))
 (xs_one (s_if (yt_cmp (c_ne ft hr) (y_ix ft (x_name (i := 7)) (y_neg x_int)) (x_name (i := 2)))
 (xs_one (s_expr (x_extend (i := 6) rfl (by first | exact .inl rfl | exact .inr (.inl rfl) | exact .inr (.inr rfl)) (ft).K (x_lc (own := [("one", 8), ("two", 9)]) (ft).K (ft).calm sc__law_trails.nd (xi_seq (ft).K (y_ix ft (x_name (i := 0)) x_int)) (blkOk_by (by rfl)) (fun _ _ _ _ _ => (g_tup ((Fit.blk ft)).calm ((Fit.blk ft)).K (gs_cons (g_name (i := 8) sc__law_trails.nd rfl (by first | exact .inl rfl | exact .inr rfl)) (gs_cons (g_name (i := 9) sc__law_trails.nd rfl (by first | exact .inl rfl | exact .inr rfl)) gs_nil)))) (fun _ _ _ _ _ => (xts_one (xt_w (xw_and (yt_cmp (c_eq (Fit.blk ft) hr) (x_name (i := 8)) (y_ix (Fit.blk ft) (x_name (i := 7)) (y_neg x_int))) (xw_and1 (yt_cmp (c_notIn (Fit.blk ft) hr) (x_name (i := 9)) (x_name (i := 7)))))))) (fun _ _ _ _ _ => (y_bin (b_add (Fit.blk ft)) (x_name (i := 7)) (x_tup (xa_cons (x_fz (x_name (i := 9))) xa_nil)))) (by decide)))))
 xs_nil)))
 (xs_one (s_set (i := 3) sc__law_trails.nd rfl (by first | exact .inl rfl | exact .inr rfl) (x_fz (x_name (i := 6)))))))))
 (xs_one (s_ret (y_typ (f_tuple ft) rfl Z.tuple_ (xa_cons (y_blt (f_sortT ft hr) rfl Z.sorted_ (xa_cons (x_name (i := 4)) xa_nil)) xa_nil)))))), hm, F.kp, bindsE F (fun kV doc pm an cdv ct j us ws _ h2 h3 => bs3 (B := fun j us ws => bindArgs (PySem.W.fnOf "_law_trails" "_law_trails" (defArgs s__law_trails) (defBody s__law_trails) (defScope s__law_trails) .none kV doc pm an cdv ct) ⟨us, ((["net", "start", "end"] : List Str).drop j).zip ws⟩ = pure ((["net", "start", "end"] : List Str).zip (us ++ ws))) (by intros; rfl) (by intros; rfl) (by intros; rfl) (by intros; rfl) j us ws h2 h3)⟩
abbrev s__law_ends : Stmt := topS 18
theorem sc__law_ends : FnScope ["box", "net", "pairs", "one", "two", "far", "pair"] ["box", "net"] (defScope s__law_ends) := ⟨rfl, rfl, rfl, by decide +kernel, rfl, by decide +kernel, by decide +kernel⟩
def b__law_ends_1 : FS := (fDrop (fApp 2 (fTup (faCons (fFz (fName 3)) (faCons (fFz (fName 4)) faNil)))))
def b__law_ends_2 : FS := (fIfS (fB (fOp2 sNe (fName 3) (fName 4))) b__law_ends_1 fNx)
def b__law_ends_3 : FS := fSeq (fAsg (fCallU [true, false] F__law_take (faCons (fName 0) (faCons (fOp2 sIx (fName 1) (fC (.int 0))) faNil))) (gSet 4)) b__law_ends_2
def b__law_ends_4 : FE := (fFz (fName 6))
def b__law_ends_5 : FT := (fB (fOp2 (sIn true) (fName 6) (fOp2 sIx (fName 1) (fC (.int 1)))))
def b__law_ends_6 : FS := (fRet (fTup (faCons (fC (.int 0)) (faCons (fC (.int 1)) faNil))))
def b__law_ends_7 : FS := (fRet (fCallU [true, false] F__law_pick (faCons (fName 0) (faCons (fFz (fLst (faCons (fCallU [true, false] F__law_pick (faCons (fName 0) (faCons (fIf (fB (fOp2 sNe (fName 5) (fLst faNil))) (fFz (fName 5)) (fFz (fName 2))) faNil))) (faCons (fCallU [true, false] F__law_pick (faCons (fName 0) (faCons (fFz (fName 2)) faNil))) faNil)))) faNil))))
def b__law_ends_8 : FS := fSeq (fIfS (fB (fOp2 sEq (fName 2) (fLst faNil))) b__law_ends_6 fNx) b__law_ends_7
def b__law_ends_9 : FS := fSeq (fSeq (fAsg (fLC (fiSeq (fName 2)) (gSet 6) b__law_ends_5 b__law_ends_4 [6]) (gSet 5)) (frzS 5)) b__law_ends_8
def b__law_ends_10 : FS := fSeq (fFor (fiRng1 (faCons (fOp2 sIx (fName 1) (fC (.int 0))) faNil)) (gSet 3) b__law_ends_3) b__law_ends_9
def b__law_ends_11 : FS := fSeq (fAsg (fLst faNil) (gSet 2)) b__law_ends_10
def F__law_ends : List D → CO := runF [true, false] 7 b__law_ends_11
theorem own__law_ends (Z : Zs mg) {f : Addr} {fd : FuncData} (F : Fun K "_law_ends" "_law_ends" s__law_ends f fd) (hm : mg "_law_ends" = some (.ref f)) (O__law_pick : Own P w K mg base 2 "_law_pick" ["box", "some"] [true, false] F__law_pick) (O__law_take : Own P w K mg base 1 "_law_take" ["box", "many"] [true, false] F__law_take) : Own P w K mg base 3 "_law_ends" ["box", "net"] [true, false] F__law_ends :=
  ⟨f, fd, fn_ok F sc__law_ends rfl rfl fun cdv A outer s H E hr =>
    have ft := fitE (P := P) (w := w) (K := K) (mg := mg) (base := base) (N := ["box", "net", "pairs", "one", "two", "far", "pair"]) (qual := "_law_ends") (scope := defScope s__law_ends) (f := f) (cd := cdv) (A := A) (outer := outer) (s := s) (H := H) (E := E)
    (xs_cons (s_set (i := 2) sc__law_ends.nd rfl (by first | exact .inl rfl | exact .inr rfl) (x_lst xa_nil))
 (xs_cons (s_for powE rfl (xi_rng1 rfl Z.range_ (xa_cons (y_ix ft (x_name (i := 1)) x_int) xa_nil)) (g_name (i := 3) sc__law_ends.nd rfl (by first | exact .inl rfl | exact .inr rfl))
 (xs_cons (s_set (i := 4) sc__law_ends.nd rfl (by first | exact .inl rfl | exact .inr rfl) (x_callO ft O__law_take hr rfl (xa_cons (x_name (i := 0)) (xa_cons (y_ix ft (x_name (i := 1)) x_int) xa_nil))))
 (xs_one (s_if (yt_cmp (c_ne ft hr) (x_name (i := 3)) (x_name (i := 4)))
 (xs_one (s_expr (x_append (i := 2) rfl (by first | exact .inl rfl | exact .inr (.inl rfl) | exact .inr (.inr rfl)) (x_tup (xa_cons (x_fz (x_name (i := 3))) (xa_cons (x_fz (x_name (i := 4))) xa_nil))))))
 xs_nil))))
 (xs_cons (s_frz 5 (ft).K (s_setLc (i := 5) (own := [("pair", 6)]) (ft).calm sc__law_ends.nd rfl rfl (xi_seq (ft).K (x_name (i := 2))) (blkOk_by (by rfl)) (fun _ _ _ _ _ => (g_name (i := 6) sc__law_ends.nd rfl (by first | exact .inl rfl | exact .inr rfl))) (fun _ _ _ _ _ => (xts_one (yt_cmp (c_notIn (Fit.blk ft) hr) (x_name (i := 6)) (y_ix (Fit.blk ft) (x_name (i := 1)) x_int)))) (fun _ _ _ _ _ => (x_fz (x_name (i := 6)))) (by decide)))
 (xs_cons (s_if (yt_cmp (c_eq ft hr) (x_name (i := 2)) (x_lst xa_nil))
 (xs_one (s_ret (x_tup (xa_cons x_int (xa_cons x_int xa_nil)))))
 xs_nil)
 (xs_one (s_ret (x_callO ft O__law_pick hr rfl (xa_cons (x_name (i := 0)) (xa_cons (x_fz (x_lst (xa_cons (x_callO ft O__law_pick hr rfl (xa_cons (x_name (i := 0)) (xa_cons (x_if (yt_cmp (c_ne ft hr) (x_name (i := 5)) (x_lst xa_nil)) (x_fz (x_name (i := 5))) (x_fz (x_name (i := 2)))) xa_nil))) (xa_cons (x_callO ft O__law_pick hr rfl (xa_cons (x_name (i := 0)) (xa_cons (x_fz (x_name (i := 2))) xa_nil))) xa_nil)))) xa_nil))))))))), hm, F.kp, bindsE F (fun kV doc pm an cdv ct j us ws _ h2 h3 => bs2 (B := fun j us ws => bindArgs (PySem.W.fnOf "_law_ends" "_law_ends" (defArgs s__law_ends) (defBody s__law_ends) (defScope s__law_ends) .none kV doc pm an cdv ct) ⟨us, ((["box", "net"] : List Str).drop j).zip ws⟩ = pure ((["box", "net"] : List Str).zip (us ++ ws))) (by intros; rfl) (by intros; rfl) (by intros; rfl) j us ws h2 h3)⟩
abbrev s__law_less : Stmt := topS 19
theorem sc__law_less : FnScope ["lot", "others", "house"] ["lot", "others"] (defScope s__law_less) := ⟨rfl, rfl, rfl, by decide +kernel, rfl, by decide +kernel, by decide +kernel⟩
def b__law_less_1 : FE := (fFz (fName 2))
def b__law_less_2 : FT := (fB (fOp2 (sIn true) (fName 2) (fName 1)))
def b__law_less_3 : FS := (fRet (fCall sTuple (faCons (fLC (fiSeq (fName 0)) (gSet 2) b__law_less_2 b__law_less_1 [2]) faNil)))
def F__law_less : List D → CO := runF [false, false] 3 b__law_less_3
theorem own__law_less (Z : Zs mg) {f : Addr} {fd : FuncData} (F : Fun K "_law_less" "_law_less" s__law_less f fd) (hm : mg "_law_less" = some (.ref f)) : Own P w K mg base 1 "_law_less" ["lot", "others"] [false, false] F__law_less :=
  ⟨f, fd, fn_ok F sc__law_less rfl rfl fun cdv A outer s H E hr =>
    have ft := fitE (P := P) (w := w) (K := K) (mg := mg) (base := base) (N := ["lot", "others", "house"]) (qual := "_law_less") (scope := defScope s__law_less) (f := f) (cd := cdv) (A := A) (outer := outer) (s := s) (H := H) (E := E)
    (xs_one (s_ret (y_typ (f_tuple ft) rfl Z.tuple_ (xa_cons (x_lc (own := [("house", 2)]) (ft).K (ft).calm sc__law_less.nd (xi_seq (ft).K (x_name (i := 0))) (blkOk_by (by rfl)) (fun _ _ _ _ _ => (g_name (i := 2) sc__law_less.nd rfl (by first | exact .inl rfl | exact .inr rfl))) (fun _ _ _ _ _ => (xts_one (yt_cmp (c_notIn (Fit.blk ft) hr) (x_name (i := 2)) (x_name (i := 1))))) (fun _ _ _ _ _ => (x_fz (x_name (i := 2)))) (by decide)) xa_nil)))), hm, F.kp, bindsE F (fun kV doc pm an cdv ct j us ws _ h2 h3 => bs2 (B := fun j us ws => bindArgs (PySem.W.fnOf "_law_less" "_law_less" (defArgs s__law_less) (defBody s__law_less) (defScope s__law_less) .none kV doc pm an cdv ct) ⟨us, ((["lot", "others"] : List Str).drop j).zip ws⟩ = pure ((["lot", "others"] : List Str).zip (us ++ ws))) (by intros; rfl) (by intros; rfl) (by intros; rfl) j us ws h2 h3)⟩
abbrev s__law_reports : Stmt := topS 20
theorem sc__law_reports : FnScope ["box", "net", "start", "end", "value", "lot", "values", "told", "rows", "way", "trail", "said", "house"] ["box", "net", "start", "end", "value", "lot", "values"] (defScope s__law_reports) := ⟨rfl, rfl, rfl, by decide +kernel, rfl, by decide +kernel, by decide +kernel⟩
def b__law_reports_1 : FE := (fC (.int 1))
def b__law_reports_2 : FT := (fB (fOp2 (sIn false) (fName 12) (fName 5)))
def b__law_reports_3 : FS := fCt
def b__law_reports_4 : FS := fSeq (fDrop (fApp 8 (fTup (faCons (fFz (fName 10)) (faCons (fFz (fName 4)) faNil))))) b__law_reports_3
def b__law_reports_5 : FS := (fDrop (fApp 7 (fTup (faCons (fFz (fName 10)) (faCons (fFz (fName 11)) faNil)))))
def b__law_reports_6 : FS := (fDrop (fApp 8 (fTup (faCons (fFz (fName 10)) (faCons (fFz (fName 11)) faNil)))))
def b__law_reports_7 : FS := fSeq (fIfS (ftOr (fB (fOp1 (sIsN true) (fName 11))) (fB (fOp2 sEq (fCallU [true, false] F__law_take (faCons (fName 0) (faCons (fC (.int 2)) faNil))) (fC (.int 0))))) b__law_reports_5 fNx) b__law_reports_6
def b__law_reports_8 : FS := fSeq (fAsg (fIf (fB (fOp2 sGt (fName 9) (fC (.int 0)))) (fCallU [true, false] F__law_pick (faCons (fName 0) (faCons (fFz (fLst (faCons (fC .non) (faCons (fCallU [true, false] F__law_take (faCons (fName 0) (faCons (fFz (fName 6)) faNil))) (faCons (fOp2 sMod (fCall sInt (faCons (fOp2 sAdd (fName 4) (fC (.int 1))) faNil)) (fName 6)) (faCons (fFz (fName 4)) faNil)))))) faNil))) (fOp2 sMod (fCall sInt (faCons (fOp2 sAdd (fName 4) (fC (.int 1))) faNil)) (fName 6))) (gSet 11)) b__law_reports_7
def b__law_reports_9 : FS := fSeq (fIfS (fB (fOp2 sEq (fLC (fiSeq (fName 10)) (gSet 12) b__law_reports_2 b__law_reports_1 [12]) (fLst faNil))) b__law_reports_4 fNx) b__law_reports_8
def b__law_reports_10 : FS := (fRet (fTup (faCons (fCall sTuple (faCons (fName 7) faNil)) (faCons (fCall sTuple (faCons (fName 8) faNil)) faNil))))
def b__law_reports_11 : FS := fSeq (fFor (fiSeq (fCallU [false, false, false] F__law_trails (faCons (fFz (fName 1)) (faCons (fFz (fName 2)) (faCons (fFz (fName 3)) faNil))))) (gSet 10) b__law_reports_9) b__law_reports_10
def b__law_reports_12 : FS := fSeq (fPar3 7 8 9 (faCons (fLst faNil) (faCons (fLst faNil) (faCons (fCallU [true, false] F__law_take (faCons (fName 0) (faCons (fC (.int 4)) faNil))) faNil)))) b__law_reports_11
def F__law_reports : List D → CO := runF [true, false, false, false, false, false, false] 13 b__law_reports_12
theorem own__law_reports (Z : Zs mg) {f : Addr} {fd : FuncData} (F : Fun K "_law_reports" "_law_reports" s__law_reports f fd) (hm : mg "_law_reports" = some (.ref f)) (O__law_trails : Own P w K mg base 1 "_law_trails" ["net", "start", "end"] [false, false, false] F__law_trails) (O__law_take : Own P w K mg base 1 "_law_take" ["box", "many"] [true, false] F__law_take) (O__law_pick : Own P w K mg base 2 "_law_pick" ["box", "some"] [true, false] F__law_pick) : Own P w K mg base 3 "_law_reports" ["box", "net", "start", "end", "value", "lot", "values"] [true, false, false, false, false, false, false] F__law_reports :=
  ⟨f, fd, fn_ok F sc__law_reports rfl rfl fun cdv A outer s H E hr =>
    have ft := fitE (P := P) (w := w) (K := K) (mg := mg) (base := base) (N := ["box", "net", "start", "end", "value", "lot", "values", "told", "rows", "way", "trail", "said", "house"]) (qual := "_law_reports") (scope := defScope s__law_reports) (f := f) (cd := cdv) (A := A) (outer := outer) (s := s) (H := H) (E := E)
    (xs_cons (s_par3 (i := 7) (j := 8) (l := 9) rfl sc__law_reports.nd rfl rfl rfl (by decide) (by decide) (by decide) rfl rfl rfl (xa_cons (x_lst xa_nil) (xa_cons (x_lst xa_nil) (xa_cons (x_callO ft O__law_take hr rfl (xa_cons (x_name (i := 0)) (xa_cons x_int xa_nil))) xa_nil))) rfl)
 (xs_cons (s_for powE rfl (xi_seq (ft).K (x_callO ft O__law_trails hr rfl (xa_cons (x_fz (x_name (i := 1))) (xa_cons (x_fz (x_name (i := 2))) (xa_cons (x_fz (x_name (i := 3))) xa_nil))))) (g_name (i := 10) sc__law_reports.nd rfl (by first | exact .inl rfl | exact .inr rfl))
 (xs_cons (s_if (yt_cmp (c_eq ft hr) (x_lc (own := [("house", 12)]) (ft).K (ft).calm sc__law_reports.nd (xi_seq (ft).K (x_name (i := 10))) (blkOk_by (by rfl)) (fun _ _ _ _ _ => (g_name (i := 12) sc__law_reports.nd rfl (by first | exact .inl rfl | exact .inr rfl))) (fun _ _ _ _ _ => (xts_one (yt_cmp (c_in (Fit.blk ft) hr) (x_name (i := 12)) (x_name (i := 5))))) (fun _ _ _ _ _ => x_int) (by decide)) (x_lst xa_nil))
 (xs_cons (s_expr (x_append (i := 8) rfl (by first | exact .inl rfl | exact .inr (.inl rfl) | exact .inr (.inr rfl)) (x_tup (xa_cons (x_fz (x_name (i := 10))) (xa_cons (x_fz (x_name (i := 4))) xa_nil)))))
 (xs_one s_continue))
 xs_nil)
 (xs_cons (s_set (i := 11) sc__law_reports.nd rfl (by first | exact .inl rfl | exact .inr rfl) (x_if (yt_cmp (c_gt ft) (x_name (i := 9)) x_int) (x_callO ft O__law_pick hr rfl (xa_cons (x_name (i := 0)) (xa_cons (x_fz (x_lst (xa_cons x_non (xa_cons (x_callO ft O__law_take hr rfl (xa_cons (x_name (i := 0)) (xa_cons (x_fz (x_name (i := 6))) xa_nil))) (xa_cons (y_bin (b_mod ft) (y_typ (f_int ft) rfl Z.int_ (xa_cons (y_bin (b_add ft) (x_name (i := 4)) x_int) xa_nil)) (x_name (i := 6))) (xa_cons (x_fz (x_name (i := 4))) xa_nil)))))) xa_nil))) (y_bin (b_mod ft) (y_typ (f_int ft) rfl Z.int_ (xa_cons (y_bin (b_add ft) (x_name (i := 4)) x_int) xa_nil)) (x_name (i := 6)))))
 (xs_cons (s_if (xt_w (xw_or (xt_notN (x_name (i := 11))) (xw_or1 (yt_cmp (c_eq ft hr) (x_callO ft O__law_take hr rfl (xa_cons (x_name (i := 0)) (xa_cons x_int xa_nil))) x_int))))
 (xs_one (s_expr (x_append (i := 7) rfl (by first | exact .inl rfl | exact .inr (.inl rfl) | exact .inr (.inr rfl)) (x_tup (xa_cons (x_fz (x_name (i := 10))) (xa_cons (x_fz (x_name (i := 11))) xa_nil))))))
 xs_nil)
 (xs_one (s_expr (x_append (i := 8) rfl (by first | exact .inl rfl | exact .inr (.inl rfl) | exact .inr (.inr rfl)) (x_tup (xa_cons (x_fz (x_name (i := 10))) (xa_cons (x_fz (x_name (i := 11))) xa_nil))))))))))
 (xs_one (s_ret (x_tup (xa_cons (y_typ (f_tuple ft) rfl Z.tuple_ (xa_cons (x_name (i := 7)) xa_nil)) (xa_cons (y_typ (f_tuple ft) rfl Z.tuple_ (xa_cons (x_name (i := 8)) xa_nil)) xa_nil))))))), hm, F.kp, bindsE F (fun kV doc pm an cdv ct j us ws _ h2 h3 => bs7 (B := fun j us ws => bindArgs (PySem.W.fnOf "_law_reports" "_law_reports" (defArgs s__law_reports) (defBody s__law_reports) (defScope s__law_reports) .none kV doc pm an cdv ct) ⟨us, ((["box", "net", "start", "end", "value", "lot", "values"] : List Str).drop j).zip ws⟩ = pure ((["box", "net", "start", "end", "value", "lot", "values"] : List Str).zip (us ++ ws))) (by intros; rfl) (by intros; rfl) (by intros; rfl) (by intros; rfl) (by intros; rfl) (by intros; rfl) (by intros; rfl) (by intros; rfl) j us ws h2 h3)⟩
abbrev s__law_short : Stmt := topS 21
theorem sc__law_short : FnScope ["net", "start", "end", "most", "row"] ["net", "start", "end", "most"] (defScope s__law_short) := ⟨rfl, rfl, rfl, by decide +kernel, rfl, by decide +kernel, by decide +kernel⟩
def b__law_short_1 : FE := (fFz (fName 4))
def b__law_short_2 : FT := (fB (fOp2 sLe (fCall sLen (faCons (fName 4) faNil)) (fOp2 sAdd (fName 3) (fC (.int 1)))))
def b__law_short_3 : FS := (fRet (fCall sTuple (faCons (fLC (fiSeq (fCallU [false, false, false] F__law_trails (faCons (fFz (fName 0)) (faCons (fFz (fName 1)) (faCons (fFz (fName 2)) faNil))))) (gSet 4) b__law_short_2 b__law_short_1 [4]) faNil)))
def F__law_short : List D → CO := runF [false, false, false, false] 5 b__law_short_3
theorem own__law_short (Z : Zs mg) {f : Addr} {fd : FuncData} (F : Fun K "_law_short" "_law_short" s__law_short f fd) (hm : mg "_law_short" = some (.ref f)) (O__law_trails : Own P w K mg base 1 "_law_trails" ["net", "start", "end"] [false, false, false] F__law_trails) : Own P w K mg base 2 "_law_short" ["net", "start", "end", "most"] [false, false, false, false] F__law_short :=
  ⟨f, fd, fn_ok F sc__law_short rfl rfl fun cdv A outer s H E hr =>
    have ft := fitE (P := P) (w := w) (K := K) (mg := mg) (base := base) (N := ["net", "start", "end", "most", "row"]) (qual := "_law_short") (scope := defScope s__law_short) (f := f) (cd := cdv) (A := A) (outer := outer) (s := s) (H := H) (E := E)
    (xs_one (s_ret (y_typ (f_tuple ft) rfl Z.tuple_ (xa_cons (x_lc (own := [("row", 4)]) (ft).K (ft).calm sc__law_short.nd (xi_seq (ft).K (x_callO ft O__law_trails hr rfl (xa_cons (x_fz (x_name (i := 0))) (xa_cons (x_fz (x_name (i := 1))) (xa_cons (x_fz (x_name (i := 2))) xa_nil))))) (blkOk_by (by rfl)) (fun _ _ _ _ _ => (g_name (i := 4) sc__law_short.nd rfl (by first | exact .inl rfl | exact .inr rfl))) (fun _ _ _ _ _ => (xts_one (yt_cmp (c_le (Fit.blk ft)) (y_blt (f_len (Fit.blk ft)) rfl Z.len_ (xa_cons (x_name (i := 4)) xa_nil)) (y_bin (b_add (Fit.blk ft)) (x_name (i := 3)) x_int)))) (fun _ _ _ _ _ => (x_fz (x_name (i := 4)))) (by decide)) xa_nil)))), hm, F.kp, bindsE F (fun kV doc pm an cdv ct j us ws _ h2 h3 => bs4 (B := fun j us ws => bindArgs (PySem.W.fnOf "_law_short" "_law_short" (defArgs s__law_short) (defBody s__law_short) (defScope s__law_short) .none kV doc pm an cdv ct) ⟨us, ((["net", "start", "end", "most"] : List Str).drop j).zip ws⟩ = pure ((["net", "start", "end", "most"] : List Str).zip (us ++ ws))) (by intros; rfl) (by intros; rfl) (by intros; rfl) (by intros; rfl) (by intros; rfl) j us ws h2 h3)⟩
abbrev s__law_meets : Stmt := topS 22
theorem sc__law_meets : FnScope ["rows", "lots", "row", "house", "lot"] ["rows", "lots"] (defScope s__law_meets) := ⟨rfl, rfl, rfl, by decide +kernel, rfl, by decide +kernel, by decide +kernel⟩
def b__law_meets_1 : FE := (fC (.int 1))
def b__law_meets_2 : FT := (fB (fOp2 (sIn false) (fName 3) (fName 4)))
def b__law_meets_3 : FE := (fC (.int 1))
def b__law_meets_4 : FT := (fB (fOp2 sNe (fLC (fiSeq (fName 1)) (gSet 4) b__law_meets_2 b__law_meets_1 [4]) (fLst faNil)))
def b__law_meets_5 : FE := (fC (.int 1))
def b__law_meets_6 : FT := (fB (fOp2 sEq (fLC (fiSeq (fName 2)) (gSet 3) b__law_meets_4 b__law_meets_3 [3]) (fLst faNil)))
def b__law_meets_7 : FS := (fRet (fOp2 sEq (fLC (fiSeq (fName 0)) (gSet 2) b__law_meets_6 b__law_meets_5 [2]) (fLst faNil)))
def F__law_meets : List D → CO := runF [false, false] 5 b__law_meets_7
theorem own__law_meets (Z : Zs mg) {f : Addr} {fd : FuncData} (F : Fun K "_law_meets" "_law_meets" s__law_meets f fd) (hm : mg "_law_meets" = some (.ref f)) : Own P w K mg base 1 "_law_meets" ["rows", "lots"] [false, false] F__law_meets :=
  ⟨f, fd, fn_ok F sc__law_meets rfl rfl fun cdv A outer s H E hr =>
    have ft := fitE (P := P) (w := w) (K := K) (mg := mg) (base := base) (N := ["rows", "lots", "row", "house", "lot"]) (qual := "_law_meets") (scope := defScope s__law_meets) (f := f) (cd := cdv) (A := A) (outer := outer) (s := s) (H := H) (E := E)
    (xs_one (s_ret (y_cmp (c_eq ft hr) (x_lc (own := [("row", 2)]) (ft).K (ft).calm sc__law_meets.nd (xi_seq (ft).K (x_name (i := 0))) (blkOk_by (by rfl)) (fun _ _ _ _ _ => (g_name (i := 2) sc__law_meets.nd rfl (by first | exact .inl rfl | exact .inr rfl))) (fun _ _ _ _ _ => (xts_one (yt_cmp (c_eq (Fit.blk ft) hr) (x_lc (own := [("house", 3)]) ((Fit.blk ft)).K ((Fit.blk ft)).calm sc__law_meets.nd (xi_seq ((Fit.blk ft)).K (x_name (i := 2))) (blkOk_by (by rfl)) (fun _ _ _ _ _ => (g_name (i := 3) sc__law_meets.nd rfl (by first | exact .inl rfl | exact .inr rfl))) (fun _ _ _ _ _ => (xts_one (yt_cmp (c_ne (Fit.blk (Fit.blk ft)) hr) (x_lc (own := [("lot", 4)]) ((Fit.blk (Fit.blk ft))).K ((Fit.blk (Fit.blk ft))).calm sc__law_meets.nd (xi_seq ((Fit.blk (Fit.blk ft))).K (x_name (i := 1))) (blkOk_by (by rfl)) (fun _ _ _ _ _ => (g_name (i := 4) sc__law_meets.nd rfl (by first | exact .inl rfl | exact .inr rfl))) (fun _ _ _ _ _ => (xts_one (yt_cmp (c_in (Fit.blk (Fit.blk (Fit.blk ft))) hr) (x_name (i := 3)) (x_name (i := 4))))) (fun _ _ _ _ _ => x_int) (by decide)) (x_lst xa_nil)))) (fun _ _ _ _ _ => x_int) (by decide)) (x_lst xa_nil)))) (fun _ _ _ _ _ => x_int) (by decide)) (x_lst xa_nil)))), hm, F.kp, bindsE F (fun kV doc pm an cdv ct j us ws _ h2 h3 => bs2 (B := fun j us ws => bindArgs (PySem.W.fnOf "_law_meets" "_law_meets" (defArgs s__law_meets) (defBody s__law_meets) (defScope s__law_meets) .none kV doc pm an cdv ct) ⟨us, ((["rows", "lots"] : List Str).drop j).zip ws⟩ = pure ((["rows", "lots"] : List Str).zip (us ++ ws))) (by intros; rfl) (by intros; rfl) (by intros; rfl) j us ws h2 h3)⟩
abbrev s__law_hop_cut : Stmt := topS 23
theorem sc__law_hop_cut : FnScope ["net", "liars", "start", "end", "most", "rows", "place", "lot", "one", "other", "two"] ["net", "liars", "start", "end", "most"] (defScope s__law_hop_cut) := ⟨rfl, rfl, rfl, by decide +kernel, rfl, by decide +kernel, by decide +kernel⟩
def b__law_hop_cut_1 : FS := (fRet (fTup (faCons (fFz (fName 8)) (faCons (fFz (fName 10)) faNil))))
def b__law_hop_cut_2 : FS := (fIfS (fB (fCallU [false, false] F__law_meets (faCons (fFz (fName 5)) (faCons (fTup (faCons (fFz (fName 8)) (faCons (fFz (fName 10)) faNil))) faNil)))) b__law_hop_cut_1 fNx)
def b__law_hop_cut_3 : FS := fSeq (fAsg (fCallU [false, false] F__law_less (faCons (fFz (fName 9)) (faCons (fOp2 sAdd (fName 8) (fTup (faCons (fFz (fName 2)) (faCons (fFz (fName 3)) faNil)))) faNil))) (gSet 10)) b__law_hop_cut_2
def b__law_hop_cut_4 : FS := (fFor (fiSeq (fSl (fName 1) (foSome (fName 6)) foNo)) (gSet 9) b__law_hop_cut_3)
def b__law_hop_cut_5 : FS := fSeq (fAsg (fCallU [false, false] F__law_less (faCons (fFz (fName 7)) (faCons (fTup (faCons (fFz (fName 2)) (faCons (fFz (fName 3)) faNil))) faNil))) (gSet 8)) b__law_hop_cut_4
def b__law_hop_cut_6 : FS := (fRet (fC .non))
def b__law_hop_cut_7 : FS := fSeq (fFor (fiEnum (fName 1)) (gTup [(gSet 6), (gSet 7)]) b__law_hop_cut_5) b__law_hop_cut_6
def b__law_hop_cut_8 : FS := fSeq (fAsg (fCallU [false, false, false, false] F__law_short (faCons (fFz (fName 0)) (faCons (fFz (fName 2)) (faCons (fFz (fName 3)) (faCons (fFz (fName 4)) faNil))))) (gSet 5)) b__law_hop_cut_7
def F__law_hop_cut : List D → CO := runF [false, false, false, false, false] 11 b__law_hop_cut_8
theorem own__law_hop_cut (Z : Zs mg) {f : Addr} {fd : FuncData} (F : Fun K "_law_hop_cut" "_law_hop_cut" s__law_hop_cut f fd) (hm : mg "_law_hop_cut" = some (.ref f)) (O__law_short : Own P w K mg base 2 "_law_short" ["net", "start", "end", "most"] [false, false, false, false] F__law_short) (O__law_less : Own P w K mg base 1 "_law_less" ["lot", "others"] [false, false] F__law_less) (O__law_meets : Own P w K mg base 1 "_law_meets" ["rows", "lots"] [false, false] F__law_meets) : Own P w K mg base 3 "_law_hop_cut" ["net", "liars", "start", "end", "most"] [false, false, false, false, false] F__law_hop_cut :=
  ⟨f, fd, fn_ok F sc__law_hop_cut rfl rfl fun cdv A outer s H E hr =>
    have ft := fitE (P := P) (w := w) (K := K) (mg := mg) (base := base) (N := ["net", "liars", "start", "end", "most", "rows", "place", "lot", "one", "other", "two"]) (qual := "_law_hop_cut") (scope := defScope s__law_hop_cut) (f := f) (cd := cdv) (A := A) (outer := outer) (s := s) (H := H) (E := E)
    (xs_cons (s_set (i := 5) sc__law_hop_cut.nd rfl (by first | exact .inl rfl | exact .inr rfl) (x_callO ft O__law_short hr rfl (xa_cons (x_fz (x_name (i := 0))) (xa_cons (x_fz (x_name (i := 2))) (xa_cons (x_fz (x_name (i := 3))) (xa_cons (x_fz (x_name (i := 4))) xa_nil))))))
 (xs_cons (s_for powE rfl (xi_enum (ft).K rfl Z.enumerate_ (x_name (i := 1))) (g_tup (ft).calm (ft).K (gs_cons (g_name (i := 6) sc__law_hop_cut.nd rfl (by first | exact .inl rfl | exact .inr rfl)) (gs_cons (g_name (i := 7) sc__law_hop_cut.nd rfl (by first | exact .inl rfl | exact .inr rfl)) gs_nil)))
 (xs_cons (s_set (i := 8) sc__law_hop_cut.nd rfl (by first | exact .inl rfl | exact .inr rfl) (x_callO ft O__law_less hr rfl (xa_cons (x_fz (x_name (i := 7))) (xa_cons (x_tup (xa_cons (x_fz (x_name (i := 2))) (xa_cons (x_fz (x_name (i := 3))) xa_nil))) xa_nil))))
 (xs_one (s_for powE rfl (xi_seq (ft).K (x_slice (ft).K (x_name (i := 1)) (xo_some (x_name (i := 6))) xo_none)) (g_name (i := 9) sc__law_hop_cut.nd rfl (by first | exact .inl rfl | exact .inr rfl))
 (xs_cons (s_set (i := 10) sc__law_hop_cut.nd rfl (by first | exact .inl rfl | exact .inr rfl) (x_callO ft O__law_less hr rfl (xa_cons (x_fz (x_name (i := 9))) (xa_cons (y_bin (b_add ft) (x_name (i := 8)) (x_tup (xa_cons (x_fz (x_name (i := 2))) (xa_cons (x_fz (x_name (i := 3))) xa_nil)))) xa_nil))))
 (xs_one (s_if (xt_val (x_callO ft O__law_meets hr rfl (xa_cons (x_fz (x_name (i := 5))) (xa_cons (x_tup (xa_cons (x_fz (x_name (i := 8))) (xa_cons (x_fz (x_name (i := 10))) xa_nil))) xa_nil))))
 (xs_one (s_ret (x_tup (xa_cons (x_fz (x_name (i := 8))) (xa_cons (x_fz (x_name (i := 10))) xa_nil)))))
 xs_nil)))))))
 (xs_one (s_ret x_non)))), hm, F.kp, bindsE F (fun kV doc pm an cdv ct j us ws _ h2 h3 => bs5 (B := fun j us ws => bindArgs (PySem.W.fnOf "_law_hop_cut" "_law_hop_cut" (defArgs s__law_hop_cut) (defBody s__law_hop_cut) (defScope s__law_hop_cut) .none kV doc pm an cdv ct) ⟨us, ((["net", "liars", "start", "end", "most"] : List Str).drop j).zip ws⟩ = pure ((["net", "liars", "start", "end", "most"] : List Str).zip (us ++ ws))) (by intros; rfl) (by intros; rfl) (by intros; rfl) (by intros; rfl) (by intros; rfl) (by intros; rfl) j us ws h2 h3)⟩
abbrev s__law_box : Stmt := topS 24
theorem sc__law_box : FnScope ["script", "k", "cell", "great"] ["script", "k"] (defScope s__law_box) := ⟨rfl, rfl, rfl, by decide +kernel, rfl, by decide +kernel, by decide +kernel⟩
def b__law_box_1 : FS := (fAsg (fCall sAbs (faCons (fCall sInt (faCons (fOp2 sIx (fName 0) (fName 1)) faNil)) faNil)) (gSet 2))
def b__law_box_2 : FS := (fAsg (fOp2 sAdd (fName 2) (fOp2 sMul (fOp2 sMod (fCall sInt (faCons (fCall sAbs (faCons (fCall sInt (faCons (fOp2 sIx (fName 0) (fOp2 sMod (fCall sInt (faCons (fName 1) faNil)) (fCall sLen (faCons (fName 0) faNil)))) faNil)) faNil)) faNil)) (fC (.int 2147483563))) (fC (.int 57193)))) (gSet 2))
def b__law_box_3 : FS := (fIfS (fB (fOp2 sGt (fCall sLen (faCons (fName 0) faNil)) (fC (.int 0)))) b__law_box_2 fNx)
def b__law_box_4 : FS := (fRet (fLst (faCons (fFz (fName 3)) (faCons (fOp2 sAdd (fOp2 sMod (fCall sInt (faCons (fOp2 sAdd (fOp2 sMul (fOp2 sMod (fCall sInt (faCons (fName 2) faNil)) (fC (.int 2147483563))) (fC (.int 40014))) (fOp2 sMul (fC (.int 7669)) (fName 1))) faNil)) (fC (.int 2147483563))) (fC (.int 1))) faNil))))
def b__law_box_5 : FS := fSeq (fAsg (fIf (fB (fOp2 sGe (fName 2) (fOp2 sPow (fC (.int 10)) (fC (.int 18))))) (fFz (fName 2)) (fC (.int 0))) (gSet 3)) b__law_box_4
def b__law_box_6 : FS := fSeq (fIfS (fB (fOp2 sLt (fName 1) (fCall sLen (faCons (fName 0) faNil)))) b__law_box_1 b__law_box_3) b__law_box_5
def b__law_box_7 : FS := fSeq (fAsg (fOp2 sAdd (fOp2 sMul (fC (.int 6047)) (fName 1)) (fC (.int 7669))) (gSet 2)) b__law_box_6
def F__law_box : List D → CO := runF [false, false] 4 b__law_box_7
theorem own__law_box (Z : Zs mg) {f : Addr} {fd : FuncData} (F : Fun K "_law_box" "_law_box" s__law_box f fd) (hm : mg "_law_box" = some (.ref f)) : Own P w K mg base 1 "_law_box" ["script", "k"] [false, false] F__law_box :=
  ⟨f, fd, fn_ok F sc__law_box rfl rfl fun cdv A outer s H E hr =>
    have ft := fitE (P := P) (w := w) (K := K) (mg := mg) (base := base) (N := ["script", "k", "cell", "great"]) (qual := "_law_box") (scope := defScope s__law_box) (f := f) (cd := cdv) (A := A) (outer := outer) (s := s) (H := H) (E := E)
    (xs_cons (s_set (i := 2) sc__law_box.nd rfl (by first | exact .inl rfl | exact .inr rfl) (y_bin (b_add ft) (y_bin (b_mul ft) x_int (x_name (i := 1))) x_int))
 (xs_cons (s_if (yt_cmp (c_lt ft) (x_name (i := 1)) (y_blt (f_len ft) rfl Z.len_ (xa_cons (x_name (i := 0)) xa_nil)))
 (xs_one (s_set (i := 2) sc__law_box.nd rfl (by first | exact .inl rfl | exact .inr rfl) (y_blt (f_abs ft) rfl Z.abs_ (xa_cons (y_typ (f_int ft) rfl Z.int_ (xa_cons (y_ix ft (x_name (i := 0)) (x_name (i := 1))) xa_nil)) xa_nil))))
 (xs_one (s_if (yt_cmp (c_gt ft) (y_blt (f_len ft) rfl Z.len_ (xa_cons (x_name (i := 0)) xa_nil)) x_int)
 (xs_one (s_set (i := 2) sc__law_box.nd rfl (by first | exact .inl rfl | exact .inr rfl) (y_bin (b_add ft) (x_name (i := 2)) (y_bin (b_mul ft) (y_bin (b_mod ft) (y_typ (f_int ft) rfl Z.int_ (xa_cons (y_blt (f_abs ft) rfl Z.abs_ (xa_cons (y_typ (f_int ft) rfl Z.int_ (xa_cons (y_ix ft (x_name (i := 0)) (y_bin (b_mod ft) (y_typ (f_int ft) rfl Z.int_ (xa_cons (x_name (i := 1)) xa_nil)) (y_blt (f_len ft) rfl Z.len_ (xa_cons (x_name (i := 0)) xa_nil)))) xa_nil)) xa_nil)) xa_nil)) x_int) x_int))))
 xs_nil)))
 (xs_cons (s_set (i := 3) sc__law_box.nd rfl (by first | exact .inl rfl | exact .inr rfl) (x_if (yt_cmp (c_ge ft) (x_name (i := 2)) (y_bin (b_pow ft) x_int x_int)) (x_fz (x_name (i := 2))) x_int))
 (xs_one (s_ret (x_lst (xa_cons (x_fz (x_name (i := 3))) (xa_cons (y_bin (b_add ft) (y_bin (b_mod ft) (y_typ (f_int ft) rfl Z.int_ (xa_cons (y_bin (b_add ft) (y_bin (b_mul ft) (y_bin (b_mod ft) (y_typ (f_int ft) rfl Z.int_ (xa_cons (x_name (i := 2)) xa_nil)) x_int) x_int) (y_bin (b_mul ft) x_int (x_name (i := 1)))) xa_nil)) x_int) x_int) xa_nil)))))))), hm, F.kp, bindsE F (fun kV doc pm an cdv ct j us ws _ h2 h3 => bs2 (B := fun j us ws => bindArgs (PySem.W.fnOf "_law_box" "_law_box" (defArgs s__law_box) (defBody s__law_box) (defScope s__law_box) .none kV doc pm an cdv ct) ⟨us, ((["script", "k"] : List Str).drop j).zip ws⟩ = pure ((["script", "k"] : List Str).zip (us ++ ws))) (by intros; rfl) (by intros; rfl) (by intros; rfl) j us ws h2 h3)⟩
abbrev s_law : Stmt := topS 25
theorem sc_law : FnScope ["script", "k", "box", "net", "liars", "start", "end", "some", "most", "turn", "lot", "values", "value", "told", "reports", "wrong", "rows", "trail", "said"] ["script"] (defScope s_law) := ⟨rfl, rfl, rfl, by decide +kernel, rfl, by decide +kernel, by decide +kernel⟩
def b_law_1 : FE := (fFz (fName 8))
def b_law_2 : FT := (fB (fOp1 (sIsN false) (fCallU [false, false, false, false, false] F__law_hop_cut (faCons (fFz (fName 3)) (faCons (fFz (fName 4)) (faCons (fFz (fName 5)) (faCons (fFz (fName 6)) (faCons (fFz (fName 8)) faNil))))))))
def b_law_3 : FS := (fAsg (fFz (fLst (faCons (fC (.int 1)) faNil))) (gSet 7))
def b_law_4 : FS := fSeq (fAsg (fTup (faCons (fOp2 sIx (fName 3) (fC (.int 0))) (faCons (fCall sTuple (faCons (fCall sSetT (faCons (fOp2 sAdd (fOp2 sIx (fName 3) (fC (.int 1))) (fTup (faCons (fTup (faCons (fFz (fName 5)) (faCons (fFz (fName 6)) faNil))) faNil))) faNil)) faNil)) faNil))) (gSet 3)) b_law_3
def b_law_5 : FE := (fTup (faCons (fFz (fName 17)) (faCons (fIf (fB (fOp2 sLe (fCall sLen (faCons (fName 17) faNil)) (fOp2 sAdd (fName 8) (fC (.int 1))))) (fFz (fName 18)) (fOp2 sMod (fCall sInt (faCons (fOp2 sAdd (fName 12) (fC (.int 1))) faNil)) (fName 11))) faNil)))
def b_law_6 : FS := (fRet (fC (.bl false)))
def b_law_7 : FS := (fIfS (ftNot (fB (fCallU [false, false] F__law_like (faCons (fCallU [false, false, false, false, false, false, false] F_hop_answer (faApp (faCons (fFz (fName 3)) (faCons (fFz (fName 4)) (faCons (fFz (fName 5)) (faCons (fFz (fName 6)) (faCons (fFz (fName 11)) faNil))))) (faCons (fFz (fName 8)) (faCons (fFz (fName 16)) faNil)))) (faCons (fFz (fName 12)) faNil))))) b_law_6 fNx)
def b_law_8 : FS := (fFor (fiSeq (fTup (faCons (fFz (fName 14)) (faCons (fFz (fName 15)) faNil)))) (gSet 16) b_law_7)
def b_law_9 : FS := fSeq (fAsg (fCall sTuple (faCons (fLC (fiSeq (fName 14)) (gTup [(gSet 17), (gSet 18)]) fYes b_law_5 [17, 18]) faNil)) (gSet 15)) b_law_8
def b_law_10 : FS := fSeq (fAsg (fCallU [true, false, false, false, false, false, false] F__law_reports (faCons (fName 2) (faCons (fFz (fName 3)) (faCons (fFz (fName 5)) (faCons (fFz (fName 6)) (faCons (fFz (fName 12)) (faCons (fFz (fName 10)) (faCons (fFz (fName 11)) faNil)))))))) (gTup [(gSet 13), (gSet 14)])) b_law_9
def b_law_11 : FS := fSeq (fAsg (fCallU [true, false] F__law_take (faCons (fName 2) (faCons (fFz (fName 11)) faNil))) (gSet 12)) b_law_10
def b_law_12 : FS := fSeq (fAsg (fOp2 sAdd (fC (.int 2)) (fCallU [true, false] F__law_take (faCons (fName 2) (faCons (fC (.int 3)) faNil)))) (gSet 11)) b_law_11
def b_law_13 : FS := fSeq (fAsg (fCallU [false, false] F__law_less (faCons (fCallU [true, false] F__law_pick (faCons (fName 2) (faCons (fFz (fLst (faCons (fCallU [true, false] F__law_pick (faCons (fName 2) (faCons (fFz (fName 4)) faNil))) (faCons (fCallU [true, false, false] F__law_drawn_lot (faCons (fName 2) (faCons (fCallU [true, false] F__law_pick (faCons (fName 2) (faCons (fFz (fName 4)) faNil))) (faCons (fC (.int 2)) faNil)))) faNil)))) faNil))) (faCons (fTup (faCons (fFz (fName 5)) (faCons (fFz (fName 6)) faNil))) faNil))) (gSet 10)) b_law_12
def b_law_14 : FS := (fFor (fiRng1 (faCons (fC (.int 4)) faNil)) (gSet 9) b_law_13)
def b_law_15 : FS := fSeq (fAsg (fCallU [true, false] F__law_pick (faCons (fName 2) (faCons (fFz (fName 7)) faNil))) (gSet 8)) b_law_14
def b_law_16 : FS := fSeq (fIfS (fB (fOp2 sEq (fName 7) (fLst faNil))) b_law_4 fNx) b_law_15
def b_law_17 : FS := fSeq (fSeq (fAsg (fLC (fiRng2 (faCons (fC (.int 1)) (faCons (fOp2 sIx (fName 3) (fC (.int 0))) faNil))) (gSet 8) b_law_2 b_law_1 [8]) (gSet 7)) (frzS 7)) b_law_16
def b_law_18 : FS := fSeq (fAsg (fTup (faCons (fCallU [true, false] F__law_liars (faCons (fName 2) (faCons (fOp2 sIx (fName 3) (fC (.int 0))) faNil))) (faCons (fCallU [true, false] F__law_ends (faCons (fName 2) (faCons (fFz (fName 3)) faNil))) faNil))) (gTup [(gSet 4), (gTup [(gSet 5), (gSet 6)])])) b_law_17
def b_law_19 : FS := fSeq (fAsg (fCallU [true, false, false] F__law_net (faCons (fName 2) (faCons (fOp2 sAdd (fC (.int 3)) (fCallU [true, false] F__law_take (faCons (fName 2) (faCons (fC (.int 3)) faNil)))) (faCons (fOp2 sEq (fCallU [true, false] F__law_take (faCons (fName 2) (faCons (fC (.int 2)) faNil))) (fC (.int 0))) faNil)))) (gSet 3)) b_law_18
def b_law_20 : FS := fSeq (fAsg (fCallU [false, false] F__law_box (faCons (fFz (fName 0)) (faCons (fFz (fName 1)) faNil))) (gSet 2)) b_law_19
def b_law_21 : FS := (fRet (fC (.bl true)))
def b_law_22 : FS := fSeq (fFor (fiRng1 (faCons (fCall sMax2 (faCons (fC (.int 3)) (faCons (fCall sMin2 (faCons (fCall sLen (faCons (fName 0) faNil)) (faCons (fC (.int 8)) faNil))) faNil))) faNil)) (gSet 1) b_law_20) b_law_21
def F_law : List D → CO := runF [false] 19 b_law_22
theorem fnok_law (Z : Zs mg) {f : Addr} {fd : FuncData} (F : Fun K "law" "law" s_law f fd) (hm : mg "law" = some (.ref f)) (O__law_box : Own P w K mg base 1 "_law_box" ["script", "k"] [false, false] F__law_box) (O__law_net : Own P w K mg base 3 "_law_net" ["box", "many", "mutual"] [true, false, false] F__law_net) (O__law_pick : Own P w K mg base 2 "_law_pick" ["box", "some"] [true, false] F__law_pick) (O__law_liars : Own P w K mg base 3 "_law_liars" ["box", "many"] [true, false] F__law_liars) (O__law_ends : Own P w K mg base 3 "_law_ends" ["box", "net"] [true, false] F__law_ends) (O__law_less : Own P w K mg base 1 "_law_less" ["lot", "others"] [false, false] F__law_less) (O__law_take : Own P w K mg base 1 "_law_take" ["box", "many"] [true, false] F__law_take) (O__law_reports : Own P w K mg base 3 "_law_reports" ["box", "net", "start", "end", "value", "lot", "values"] [true, false, false, false, false, false, false] F__law_reports) (O__law_hop_cut : Own P w K mg base 3 "_law_hop_cut" ["net", "liars", "start", "end", "most"] [false, false, false, false, false] F__law_hop_cut) (O__law_like : Own P w K mg base 1 "_law_like" ["told", "due"] [false, false] F__law_like) (O__law_drawn_lot : Own P w K mg base 2 "_law_drawn_lot" ["box", "houses", "part"] [true, false, false] F__law_drawn_lot) (O_hop_answer : Own P w K mg base 4 "hop_answer" ["net", "liars", "start", "end", "values", "most", "reports"] [false, false, false, false, false, false, false] F_hop_answer) : FnOk P w K mg base (L2.CX P w) 5 f fd ["script"] (spF K mg [false] F_law) :=
  fn_ok F sc_law rfl rfl fun cdv A outer s H E hr =>
    have ft := fitE (P := P) (w := w) (K := K) (mg := mg) (base := base) (N := ["script", "k", "box", "net", "liars", "start", "end", "some", "most", "turn", "lot", "values", "value", "told", "reports", "wrong", "rows", "trail", "said"]) (qual := "law") (scope := defScope s_law) (f := f) (cd := cdv) (A := A) (outer := outer) (s := s) (H := H) (E := E)
    (xs_cons (s_for powE rfl (xi_rng1 rfl Z.range_ (xa_cons (y_blt (f_max2 ft) rfl Z.max_ (xa_cons x_int (xa_cons (y_blt (f_min2 ft) rfl Z.min_ (xa_cons (y_blt (f_len ft) rfl Z.len_ (xa_cons (x_name (i := 0)) xa_nil)) (xa_cons x_int xa_nil))) xa_nil))) xa_nil)) (g_name (i := 1) sc_law.nd rfl (by first | exact .inl rfl | exact .inr rfl))
 (xs_cons (s_set (i := 2) sc_law.nd rfl (by first | exact .inl rfl | exact .inr rfl) (x_callO ft O__law_box hr rfl (xa_cons (x_fz (x_name (i := 0))) (xa_cons (x_fz (x_name (i := 1))) xa_nil))))
 (xs_cons (s_set (i := 3) sc_law.nd rfl (by first | exact .inl rfl | exact .inr rfl) (x_callO ft O__law_net hr rfl (xa_cons (x_name (i := 2)) (xa_cons (y_bin (b_add ft) x_int (x_callO ft O__law_take hr rfl (xa_cons (x_name (i := 2)) (xa_cons x_int xa_nil)))) (xa_cons (y_cmp (c_eq ft hr) (x_callO ft O__law_take hr rfl (xa_cons (x_name (i := 2)) (xa_cons x_int xa_nil))) x_int) xa_nil)))))
 (xs_cons (s_asg (x_tup (xa_cons (x_callO ft O__law_liars hr rfl (xa_cons (x_name (i := 2)) (xa_cons (y_ix ft (x_name (i := 3)) x_int) xa_nil))) (xa_cons (x_callO ft O__law_ends hr rfl (xa_cons (x_name (i := 2)) (xa_cons (x_fz (x_name (i := 3))) xa_nil))) xa_nil))) (g_tup (ft).calm (ft).K (gs_cons (g_name (i := 4) sc_law.nd rfl (by first | exact .inl rfl | exact .inr rfl)) (gs_cons (g_tup (ft).calm (ft).K (gs_cons (g_name (i := 5) sc_law.nd rfl (by first | exact .inl rfl | exact .inr rfl)) (gs_cons (g_name (i := 6) sc_law.nd rfl (by first | exact .inl rfl | exact .inr rfl)) gs_nil))) gs_nil))))
 (xs_cons (s_frz 7 (ft).K (s_setLc (i := 7) (own := [("most", 8)]) (ft).calm sc_law.nd rfl rfl (xi_rng2 rfl Z.range_ (xa_cons x_int (xa_cons (y_ix ft (x_name (i := 3)) x_int) xa_nil))) (blkOk_by (by rfl)) (fun _ _ _ _ _ => (g_name (i := 8) sc_law.nd rfl (by first | exact .inl rfl | exact .inr rfl))) (fun _ _ _ _ _ => (xts_one (xt_isN (x_callO (Fit.blk ft) O__law_hop_cut hr rfl (xa_cons (x_fz (x_name (i := 3))) (xa_cons (x_fz (x_name (i := 4))) (xa_cons (x_fz (x_name (i := 5))) (xa_cons (x_fz (x_name (i := 6))) (xa_cons (x_fz (x_name (i := 8))) xa_nil))))))))) (fun _ _ _ _ _ => (x_fz (x_name (i := 8)))) (by decide)))
 (xs_cons (s_if (yt_cmp (c_eq ft hr) (x_name (i := 7)) (x_lst xa_nil))
 (xs_cons (s_set (i := 3) sc_law.nd rfl (by first | exact .inl rfl | exact .inr rfl) (x_tup (xa_cons (y_ix ft (x_name (i := 3)) x_int) (xa_cons (y_typ (f_tuple ft) rfl Z.tuple_ (xa_cons (x_setT ft hr rfl Z.sorted_ rfl Z.set_ (xa_cons (y_bin (b_add ft) (y_ix ft (x_name (i := 3)) x_int) (x_tup (xa_cons (x_tup (xa_cons (x_fz (x_name (i := 5))) (xa_cons (x_fz (x_name (i := 6))) xa_nil))) xa_nil))) xa_nil)) xa_nil)) xa_nil))))
 (xs_one (s_set (i := 7) sc_law.nd rfl (by first | exact .inl rfl | exact .inr rfl) (x_fz (x_lst (xa_cons x_int xa_nil))))))
 xs_nil)
 (xs_cons (s_set (i := 8) sc_law.nd rfl (by first | exact .inl rfl | exact .inr rfl) (x_callO ft O__law_pick hr rfl (xa_cons (x_name (i := 2)) (xa_cons (x_fz (x_name (i := 7))) xa_nil))))
 (xs_one (s_for powE rfl (xi_rng1 rfl Z.range_ (xa_cons x_int xa_nil)) (g_name (i := 9) sc_law.nd rfl (by first | exact .inl rfl | exact .inr rfl))
 (xs_cons (s_set (i := 10) sc_law.nd rfl (by first | exact .inl rfl | exact .inr rfl) (x_callO ft O__law_less hr rfl (xa_cons (x_callO ft O__law_pick hr rfl (xa_cons (x_name (i := 2)) (xa_cons (x_fz (x_lst (xa_cons (x_callO ft O__law_pick hr rfl (xa_cons (x_name (i := 2)) (xa_cons (x_fz (x_name (i := 4))) xa_nil))) (xa_cons (x_callO ft O__law_drawn_lot hr rfl (xa_cons (x_name (i := 2)) (xa_cons (x_callO ft O__law_pick hr rfl (xa_cons (x_name (i := 2)) (xa_cons (x_fz (x_name (i := 4))) xa_nil))) (xa_cons x_int xa_nil)))) xa_nil)))) xa_nil))) (xa_cons (x_tup (xa_cons (x_fz (x_name (i := 5))) (xa_cons (x_fz (x_name (i := 6))) xa_nil))) xa_nil))))
 (xs_cons (s_set (i := 11) sc_law.nd rfl (by first | exact .inl rfl | exact .inr rfl) (y_bin (b_add ft) x_int (x_callO ft O__law_take hr rfl (xa_cons (x_name (i := 2)) (xa_cons x_int xa_nil)))))
 (xs_cons (s_set (i := 12) sc_law.nd rfl (by first | exact .inl rfl | exact .inr rfl) (x_callO ft O__law_take hr rfl (xa_cons (x_name (i := 2)) (xa_cons (x_fz (x_name (i := 11))) xa_nil))))
 (xs_cons (s_asg (x_callO ft O__law_reports hr rfl (xa_cons (x_name (i := 2)) (xa_cons (x_fz (x_name (i := 3))) (xa_cons (x_fz (x_name (i := 5))) (xa_cons (x_fz (x_name (i := 6))) (xa_cons (x_fz (x_name (i := 12))) (xa_cons (x_fz (x_name (i := 10))) (xa_cons (x_fz (x_name (i := 11))) xa_nil)))))))) (g_tup (ft).calm (ft).K (gs_cons (g_name (i := 13) sc_law.nd rfl (by first | exact .inl rfl | exact .inr rfl)) (gs_cons (g_name (i := 14) sc_law.nd rfl (by first | exact .inl rfl | exact .inr rfl)) gs_nil))))
 (xs_cons (s_set (i := 15) sc_law.nd rfl (by first | exact .inl rfl | exact .inr rfl) (y_typ (f_tuple ft) rfl Z.tuple_ (xa_cons (x_lc (own := [("trail", 17), ("said", 18)]) (ft).K (ft).calm sc_law.nd (xi_seq (ft).K (x_name (i := 14))) (blkOk_by (by rfl)) (fun _ _ _ _ _ => (g_tup ((Fit.blk ft)).calm ((Fit.blk ft)).K (gs_cons (g_name (i := 17) sc_law.nd rfl (by first | exact .inl rfl | exact .inr rfl)) (gs_cons (g_name (i := 18) sc_law.nd rfl (by first | exact .inl rfl | exact .inr rfl)) gs_nil)))) (fun _ _ _ _ _ => xts_nil) (fun _ _ _ _ _ => (x_tup (xa_cons (x_fz (x_name (i := 17))) (xa_cons (x_if (yt_cmp (c_le (Fit.blk ft)) (y_blt (f_len (Fit.blk ft)) rfl Z.len_ (xa_cons (x_name (i := 17)) xa_nil)) (y_bin (b_add (Fit.blk ft)) (x_name (i := 8)) x_int)) (x_fz (x_name (i := 18))) (y_bin (b_mod (Fit.blk ft)) (y_typ (f_int (Fit.blk ft)) rfl Z.int_ (xa_cons (y_bin (b_add (Fit.blk ft)) (x_name (i := 12)) x_int) xa_nil)) (x_name (i := 11)))) xa_nil)))) (by decide)) xa_nil)))
 (xs_one (s_for powE rfl (xi_seq (ft).K (x_tup (xa_cons (x_fz (x_name (i := 14))) (xa_cons (x_fz (x_name (i := 15))) xa_nil)))) (g_name (i := 16) sc_law.nd rfl (by first | exact .inl rfl | exact .inr rfl))
 (xs_one (s_if (xt_not (xt_val (x_callO ft O__law_like hr rfl (xa_cons (x_callKw (n := 5) ft O_hop_answer hr rfl (xa_cons (x_fz (x_name (i := 3))) (xa_cons (x_fz (x_name (i := 4))) (xa_cons (x_fz (x_name (i := 5))) (xa_cons (x_fz (x_name (i := 6))) (xa_cons (x_fz (x_name (i := 11))) xa_nil))))) (xk_cons (x_fz (x_name (i := 8))) (xk_cons (x_fz (x_name (i := 16))) xk_nil)) (fal_cons (fal_cons (fal_cons (fal_cons (fal_cons fal_nil)))))) (xa_cons (x_fz (x_name (i := 12))) xa_nil)))))
 (xs_one (s_ret x_bl))
 xs_nil))))))))))))))))))
 (xs_one (s_ret x_bl)))
end
end K02
namespace K02
open PySem PySem.Spec
open PyProof.Rows hiding St
open L2 EE

noncomputable section
def K__law_box (m : List Int) : Fl → Rho → Prop := Kf [false, false] ((oL cI.e) m) [.non, .non]
def T__law_box_1 (k1 : Int) (j1 : Int) (great1 : Int) : List Int := ([great1, (((((j1 % (2147483563 : Int)) * (40014 : Int)) + ((7669 : Int) * k1)) % (2147483563 : Int)) + (1 : Int))] : List Int)
theorem L__law_box_1 (script1 : List Int) (k1 : Int) (j1 : Int) (great1 : Int) : JS [some (.dt ((cL cI).e script1)), some (.dt (cI.e k1)), some (.dt (cI.e j1)), some (.dt (cI.e great1))] b__law_box_4 (K__law_box (T__law_box_1 k1 j1 great1)) := (js_last (js_ret (je_lst (ja_cons (je_fzF (je_ownB (je_name rfl) rfl (cI.F great1)) (cI.F great1)) (ja_cons (je_op2 (je_op2 (je_call (ja_cons (je_op2 (je_op2 (je_op2 (je_call (ja_cons (je_name rfl) ja_nil) (rds1 rfl) (o_int j1)) je_c rfl rfl (o_mod (a := j1) (b := (2147483563 : Int)) (by decide))) je_c rfl rfl (o_mul (a := (j1 % (2147483563 : Int))) (b := (40014 : Int)) (.inr ⟨by decide, by decide⟩))) (je_op2 je_c (je_name rfl) rfl rfl (o_mul (a := (7669 : Int)) (b := k1) (.inl ⟨by decide, by decide⟩))) rfl rfl (o_addI ((j1 % (2147483563 : Int)) * (40014 : Int)) ((7669 : Int) * k1))) ja_nil) (rds1 rfl) (o_int (((j1 % (2147483563 : Int)) * (40014 : Int)) + ((7669 : Int) * k1)))) je_c rfl rfl (o_mod (a := (((j1 % (2147483563 : Int)) * (40014 : Int)) + ((7669 : Int) * k1))) (b := (2147483563 : Int)) (by decide))) je_c rfl rfl (o_addI ((((j1 % (2147483563 : Int)) * (40014 : Int)) + ((7669 : Int) * k1)) % (2147483563 : Int)) (1 : Int))) ja_nil)) rfl (sl_le rfl)) (kf_rt rfl)))
def T__law_box_2 (k1 : Int) (j1 : Int) : List Int := (T__law_box_1 k1 j1 (if (decide (((10 : Int) ^ ((18 : Int)).toNat) ≤ j1)) = true then j1 else (0 : Int)))
theorem L__law_box_2 (script1 : List Int) (k1 : Int) (j1 : Int) : JS [some (.dt ((cL cI).e script1)), some (.dt (cI.e k1)), some (.dt (cI.e j1)), some .un] b__law_box_5 (K__law_box (T__law_box_2 k1 j1)) := (js_asg (je_if cI.e (a := j1) (b := (0 : Int)) (jt_val (je_op2 (je_name rfl) (je_op2 je_c je_c rfl rfl (o_pow (a := (10 : Int)) (b := (18 : Int)) ⟨by decide, by decide, by decide⟩)) rfl rfl (o_ge j1 ((10 : Int) ^ ((18 : Int)).toNat))) rfl) (fun hc5 => (je_fzF (je_ownB (je_name rfl) rfl (cI.F j1)) (cI.F j1))) (fun hc6 => je_c)) (jg_set rfl) (L__law_box_1 script1 k1 j1 (if (decide (((10 : Int) ^ ((18 : Int)).toNat) ≤ j1)) = true then j1 else (0 : Int))))
def T__law_box_3 (script1 : List Int) (k1 : Int) (cell1 : Int) : List Int := (T__law_box_2 k1 (if (decide (k1 < (script1.length : Int))) = true then (absI (getI script1 k1 0)) else (if (decide ((0 : Int) < (script1.length : Int))) = true then (cell1 + (((absI (getI script1 (k1 % (script1.length : Int)) 0)) % (2147483563 : Int)) * (57193 : Int))) else cell1)))
def S__law_box_3 (script1 : List Int) (k1 : Int) : Prop := (((decide (k1 < (script1.length : Int)))) = true → (inI script1 k1)) ∧ (((decide (k1 < (script1.length : Int)))) = false → (((decide ((0 : Int) < (script1.length : Int)))) = true → ((0 < (script1.length : Int)) ∧ (inI script1 (k1 % (script1.length : Int))))))
theorem L__law_box_3 (script1 : List Int) (k1 : Int) (cell1 : Int) (h : S__law_box_3 script1 k1) : JS [some (.dt ((cL cI).e script1)), some (.dt (cI.e k1)), some (.dt (cI.e cell1)), some .un] b__law_box_6 (K__law_box (T__law_box_3 script1 k1 cell1)) := (js_join (K__law_box) (fun j1 : Int => [some (.dt ((cL cI).e script1)), some (.dt (cI.e k1)), some (.dt (cI.e j1)), some .un]) (mr := (fun j1 : Int => T__law_box_2 k1 j1)) (jt_val (je_op2 (je_name rfl) (je_call (ja_cons (je_name rfl) ja_nil) (rds1 rfl) (o_len cI.e (xs := script1) seqL)) rfl rfl (o_lt k1 (script1.length : Int))) rfl) (fun hc1 => (js_last (js_asg (je_call (ja_cons (je_call (ja_cons (je_op2 (je_name rfl) (je_name rfl) rfl rfl (o_ix cI (xs := script1) seqL (i := k1) 0 (h.1 hc1))) ja_nil) (rds1 rfl) (o_int (getI script1 k1 0))) ja_nil) (rds1 rfl) (o_abs (getI script1 k1 0))) (jg_set rfl) (js_end (kj_of ⟨rfl, rfl, rfl, rfl, trivial⟩))))) (fun hc2 => (js_last (js_if (Kj (fun j1 : Int => [some (.dt ((cL cI).e script1)), some (.dt (cI.e k1)), some (.dt (cI.e j1)), some .un])) (jt_val (je_op2 (je_call (ja_cons (je_name rfl) ja_nil) (rds1 rfl) (o_len cI.e (xs := script1) seqL)) je_c rfl rfl (o_gt (script1.length : Int) (0 : Int))) rfl) (fun hc3 => (js_asg (je_op2 (je_name rfl) (je_op2 (je_op2 (je_call (ja_cons (je_call (ja_cons (je_call (ja_cons (je_op2 (je_name rfl) (je_op2 (je_call (ja_cons (je_name rfl) ja_nil) (rds1 rfl) (o_int k1)) (je_call (ja_cons (je_name rfl) ja_nil) (rds1 rfl) (o_len cI.e (xs := script1) seqL)) rfl rfl (o_mod (a := k1) (b := (script1.length : Int)) ((h.2 hc2) hc3).1)) rfl rfl (o_ix cI (xs := script1) seqL (i := (k1 % (script1.length : Int))) 0 ((h.2 hc2) hc3).2)) ja_nil) (rds1 rfl) (o_int (getI script1 (k1 % (script1.length : Int)) 0))) ja_nil) (rds1 rfl) (o_abs (getI script1 (k1 % (script1.length : Int)) 0))) ja_nil) (rds1 rfl) (o_int (absI (getI script1 (k1 % (script1.length : Int)) 0)))) je_c rfl rfl (o_mod (a := (absI (getI script1 (k1 % (script1.length : Int)) 0))) (b := (2147483563 : Int)) (by decide))) je_c rfl rfl (o_mul (a := ((absI (getI script1 (k1 % (script1.length : Int)) 0)) % (2147483563 : Int))) (b := (57193 : Int)) (.inr ⟨by decide, by decide⟩))) rfl rfl (o_addI cell1 (((absI (getI script1 (k1 % (script1.length : Int)) 0)) % (2147483563 : Int)) * (57193 : Int)))) (jg_set rfl) (js_end (kj_of ⟨rfl, rfl, rfl, rfl, trivial⟩)))) (fun hc4 => (js_nx (js_end (kj_of ⟨rfl, rfl, rfl, rfl, trivial⟩))))))) (L__law_box_2 script1 k1 (if (decide (k1 < (script1.length : Int))) = true then (absI (getI script1 k1 0)) else (if (decide ((0 : Int) < (script1.length : Int))) = true then (cell1 + (((absI (getI script1 (k1 % (script1.length : Int)) 0)) % (2147483563 : Int)) * (57193 : Int))) else cell1))))
def T__law_box (script1 : List Int) (k1 : Int) : List Int := (T__law_box_3 script1 k1 (((6047 : Int) * k1) + (7669 : Int)))
theorem T__law_box_eq (script1 : List Int) (k1 : Int) : T__law_box script1 k1 = (T__law_box_3 script1 k1 (((6047 : Int) * k1) + (7669 : Int))) := rfl
def S__law_box (script1 : List Int) (k1 : Int) : Prop := (S__law_box_3 script1 k1)
theorem S__law_box_eq (script1 : List Int) (k1 : Int) : S__law_box script1 k1 = (S__law_box_3 script1 k1) := rfl
theorem L__law_box (script1 : List Int) (k1 : Int) (h : S__law_box script1 k1) : F__law_box [((cL cI).e script1), (cI.e k1)] = .ok ((oL cI.e) (T__law_box script1 k1)) [.non, .non] := fn_of (n := 4) (show JS [some (.dt ((cL cI).e script1)), some (.dt (cI.e k1)), some .un, some .un] b__law_box_7 (K__law_box (T__law_box script1 k1)) from (js_asg (je_op2 (je_op2 je_c (je_name rfl) rfl rfl (o_mul (a := (6047 : Int)) (b := k1) (.inl ⟨by decide, by decide⟩))) je_c rfl rfl (o_addI ((6047 : Int) * k1) (7669 : Int))) (jg_set rfl) (L__law_box_3 script1 k1 (((6047 : Int) * k1) + (7669 : Int)) h)))
def K__law_take (m : Int × List Int) : Fl → Rho → Prop := Kf [true, false] (cI.e m.1) [((oL cI.e) m.2), .non]
def T__law_take_1 (digit1 : Int) (box2 : List Int) : Int × List Int := (digit1, box2)
theorem L__law_take_1 (many1 : Int) (digit1 : Int) (box2 : List Int) : JS [some (.io ((oL cI.e) box2)), some (.dt (cI.e many1)), some (.dt (cI.e digit1)), some .un] (fSeq b__law_take_1 b__law_take_6) (K__law_take (T__law_take_1 digit1 box2)) := (js_ret (je_mvB (je_name rfl) rfl) (kf_rt rfl))
def T__law_take_2 (box1 : List Int) (many1 : Int) (digit1 : Int) : Int × List Int := (T__law_take_1 digit1 (box1.set (ixI box1.length (0 : Int)) ((box1.getD 0 0) / many1)))
def S__law_take_2 (box1 : List Int) (many1 : Int) : Prop := (0 < box1.length) ∧ (CDiv (box1.getD 0 0) many1) ∧ (inI box1 (0 : Int))
theorem L__law_take_2 (box1 : List Int) (many1 : Int) (digit1 : Int) (h : S__law_take_2 box1 many1) : JS [some (.io ((oL cI.e) box1)), some (.dt (cI.e many1)), some (.dt (cI.e digit1)), some .un] (fSeq b__law_take_2 b__law_take_6) (K__law_take (T__law_take_2 box1 many1 digit1)) := (js_assoc (js_asg (je_op2 (je_op2 (je_name rfl) je_c rfl rfl (o_ixN cI (xs := box1) seqL (n := 0) 0 h.1)) (je_name rfl) rfl rfl (o_div (a := (box1.getD 0 0)) (b := many1) h.2.1)) (jg_store cI.e Sl.io w_io w_io2 (x := ((box1.getD 0 0) / many1)) rfl je_c rfl rfl rfl h.2.2) (L__law_take_1 many1 digit1 (box1.set (ixI box1.length (0 : Int)) ((box1.getD 0 0) / many1)))))
def T__law_take_3 (many1 : Int) (raw1 : Int) (box3 : List Int) : Int × List Int := (((((raw1 * (2147483629 : Int)) + (box3.getD 1 0)) / (8209 : Int)) % many1), box3)
def S__law_take_3 (many1 : Int) (box3 : List Int) : Prop := (1 < box3.length) ∧ (0 < many1)
theorem L__law_take_3 (many1 : Int) (raw1 : Int) (box3 : List Int) (h : S__law_take_3 many1 box3) : JS [some (.io ((oL cI.e) box3)), some (.dt (cI.e many1)), some .un, some (.dt (cI.e raw1))] b__law_take_4 (K__law_take (T__law_take_3 many1 raw1 box3)) := (js_last (js_ret (je_op2 (je_call (ja_cons (je_op2 (je_op2 (je_op2 (je_name rfl) je_c rfl rfl (o_mul (a := raw1) (b := (2147483629 : Int)) (.inr ⟨by decide, by decide⟩))) (je_op2 (je_name rfl) je_c rfl rfl (o_ixN cI (xs := box3) seqL (n := 1) 0 h.1)) rfl rfl (o_addI (raw1 * (2147483629 : Int)) (box3.getD 1 0))) je_c rfl rfl (o_div (a := ((raw1 * (2147483629 : Int)) + (box3.getD 1 0))) (b := (8209 : Int)) ⟨by decide, by decide⟩)) ja_nil) (rds1 rfl) (o_int (((raw1 * (2147483629 : Int)) + (box3.getD 1 0)) / (8209 : Int)))) (je_name rfl) rfl rfl (o_mod (a := (((raw1 * (2147483629 : Int)) + (box3.getD 1 0)) / (8209 : Int))) (b := many1) h.2)) (kf_rt rfl)))
def T__law_take_4 (box1 : List Int) (many1 : Int) (raw1 : Int) : Int × List Int := (T__law_take_3 many1 raw1 (box1.set (ixI box1.length (1 : Int)) ((((raw1 * (40692 : Int)) + (43 : Int)) % (2147483399 : Int)) + (1 : Int))))
def S__law_take_4 (box1 : List Int) (many1 : Int) (raw1 : Int) : Prop := (inI box1 (1 : Int)) ∧ (S__law_take_3 many1 (box1.set (ixI box1.length (1 : Int)) ((((raw1 * (40692 : Int)) + (43 : Int)) % (2147483399 : Int)) + (1 : Int))))
theorem L__law_take_4 (box1 : List Int) (many1 : Int) (raw1 : Int) (h : S__law_take_4 box1 many1 raw1) : JS [some (.io ((oL cI.e) box1)), some (.dt (cI.e many1)), some .un, some (.dt (cI.e raw1))] b__law_take_5 (K__law_take (T__law_take_4 box1 many1 raw1)) := (js_asg (je_op2 (je_op2 (je_call (ja_cons (je_op2 (je_op2 (je_name rfl) je_c rfl rfl (o_mul (a := raw1) (b := (40692 : Int)) (.inr ⟨by decide, by decide⟩))) je_c rfl rfl (o_addI (raw1 * (40692 : Int)) (43 : Int))) ja_nil) (rds1 rfl) (o_int ((raw1 * (40692 : Int)) + (43 : Int)))) je_c rfl rfl (o_mod (a := ((raw1 * (40692 : Int)) + (43 : Int))) (b := (2147483399 : Int)) (by decide))) je_c rfl rfl (o_addI (((raw1 * (40692 : Int)) + (43 : Int)) % (2147483399 : Int)) (1 : Int))) (jg_store cI.e Sl.io w_io w_io2 (x := ((((raw1 * (40692 : Int)) + (43 : Int)) % (2147483399 : Int)) + (1 : Int))) rfl je_c rfl rfl rfl h.1) (L__law_take_3 many1 raw1 (box1.set (ixI box1.length (1 : Int)) ((((raw1 * (40692 : Int)) + (43 : Int)) % (2147483399 : Int)) + (1 : Int))) h.2))
def T__law_take (box1 : List Int) (many1 : Int) : Int × List Int := (if (decide ((0 : Int) < (box1.getD 0 0))) = true then (T__law_take_2 box1 many1 ((box1.getD 0 0) % many1)) else (T__law_take_4 box1 many1 ((((box1.getD 1 0) * (39373 : Int)) + (419 : Int)) % (2147483647 : Int))))
theorem T__law_take_eq (box1 : List Int) (many1 : Int) : T__law_take box1 many1 = (if (decide ((0 : Int) < (box1.getD 0 0))) = true then (T__law_take_2 box1 many1 ((box1.getD 0 0) % many1)) else (T__law_take_4 box1 many1 ((((box1.getD 1 0) * (39373 : Int)) + (419 : Int)) % (2147483647 : Int)))) := rfl
def S__law_take (box1 : List Int) (many1 : Int) : Prop := (0 < box1.length) ∧ (((decide ((0 : Int) < (box1.getD 0 0)))) = true → ((0 < box1.length) ∧ (0 < many1) ∧ (S__law_take_2 box1 many1))) ∧ (((decide ((0 : Int) < (box1.getD 0 0)))) = false → ((1 < box1.length) ∧ (S__law_take_4 box1 many1 ((((box1.getD 1 0) * (39373 : Int)) + (419 : Int)) % (2147483647 : Int)))))
theorem S__law_take_eq (box1 : List Int) (many1 : Int) : S__law_take box1 many1 = ((0 < box1.length) ∧ (((decide ((0 : Int) < (box1.getD 0 0)))) = true → ((0 < box1.length) ∧ (0 < many1) ∧ (S__law_take_2 box1 many1))) ∧ (((decide ((0 : Int) < (box1.getD 0 0)))) = false → ((1 < box1.length) ∧ (S__law_take_4 box1 many1 ((((box1.getD 1 0) * (39373 : Int)) + (419 : Int)) % (2147483647 : Int)))))) := rfl
theorem L__law_take (box1 : List Int) (many1 : Int) (h : S__law_take box1 many1) : F__law_take [((oL cI.e) box1), (cI.e many1)] = .ok (cI.e ((T__law_take box1 many1).1)) [((oL cI.e) (T__law_take box1 many1).2), .non] := fn_of (n := 4) (show JS [some (.io ((oL cI.e) box1)), some (.dt (cI.e many1)), some .un, some .un] b__law_take_7 (K__law_take (T__law_take box1 many1)) from (js_if (K__law_take) (jt_val (je_op2 (je_op2 (je_name rfl) je_c rfl rfl (o_ixN cI (xs := box1) seqL (n := 0) 0 h.1)) je_c rfl rfl (o_gt (box1.getD 0 0) (0 : Int))) rfl) (fun hc7 => (js_assoc (js_asg (je_op2 (je_call (ja_cons (je_op2 (je_name rfl) je_c rfl rfl (o_ixN cI (xs := box1) seqL (n := 0) 0 (h.2.1 hc7).1)) ja_nil) (rds1 rfl) (o_int (box1.getD 0 0))) (je_name rfl) rfl rfl (o_mod (a := (box1.getD 0 0)) (b := many1) (h.2.1 hc7).2.1)) (jg_set rfl) (L__law_take_2 box1 many1 ((box1.getD 0 0) % many1) (h.2.1 hc7).2.2)))) (fun hc8 => (js_nx (js_asg (je_op2 (je_call (ja_cons (je_op2 (je_op2 (je_op2 (je_name rfl) je_c rfl rfl (o_ixN cI (xs := box1) seqL (n := 1) 0 (h.2.2 hc8).1)) je_c rfl rfl (o_mul (a := (box1.getD 1 0)) (b := (39373 : Int)) (.inr ⟨by decide, by decide⟩))) je_c rfl rfl (o_addI ((box1.getD 1 0) * (39373 : Int)) (419 : Int))) ja_nil) (rds1 rfl) (o_int (((box1.getD 1 0) * (39373 : Int)) + (419 : Int)))) je_c rfl rfl (o_mod (a := (((box1.getD 1 0) * (39373 : Int)) + (419 : Int))) (b := (2147483647 : Int)) (by decide))) (jg_set rfl) (L__law_take_4 box1 many1 ((((box1.getD 1 0) * (39373 : Int)) + (419 : Int)) % (2147483647 : Int)) (h.2.2 hc8).2))))))
def T__law_pick {α : Type} (box : List Int) (xs : List α) (d : α) : α × List Int := (getI xs (T__law_take box xs.length).1 d, (T__law_take box xs.length).2)
def S__law_pick {α : Type} (box : List Int) (xs : List α) : Prop := S__law_take box xs.length ∧ inI xs (T__law_take box xs.length).1
theorem L__law_pick {α : Type} (c : Cd α) (d0 : α) (box : List Int) (xs : List α) {d : D} (hd : seqOf d = some (xs.map c.e)) (hF : d.isF = true) (h : S__law_pick box xs) : F__law_pick [oL cI.e box, d] = .ok (c.e (T__law_pick box xs d0).1) [oL cI.e (T__law_pick box xs d0).2, .non] :=
  fn_of (n := 2) (show JS [some (.io (oL cI.e box)), some (.dt d)] b__law_pick_1 (Kf [true, false] (c.e (T__law_pick box xs d0).1) [oL cI.e (T__law_pick box xs d0).2, .non]) from
    have h1 : JE [some (.io (oL cI.e box)), some (.dt d)] (fCall sLen (faCons (fName 1) faNil)) (.val (.int xs.length)) [some (.io (oL cI.e box)), some (.dt d)] := je_call (ja_cons (je_name rfl) ja_nil) rfl (o_len c.e hd)
    have h2 := je_callU (Γ := [some (.io (oL cI.e box)), some (.dt d)]) (ms := [true, false]) (ja_cons (je_name (i := 0) rfl) (ja_cons h1 ja_nil)) (ArgsE.b rfl rfl (ArgsE.v rfl ArgsE.nil)) (L__law_take box xs.length h.1) (nd_of rfl)
    js_last (js_ret (je_op2 (je_name rfl) h2 rfl rfl (o_ix c hd d0 h.2)) (kf_rt rfl)))
def K__law_net (m : (Int × (List (Int × Int))) × List Int) : Fl → Rho → Prop := Kf [true, false, false] ((cP (rC cI (r1 (cT (cP (rC cI (r1 cI))))))).e m.1) [((oL cI.e) m.2), .non, .non]
def T__law_net_1 (mutual1 : Bool) (part1 : Int × Int) (one1 : Int) (two1 : Int) (s2 : (List Int) × (List (Int × Int))) : (List Int) × (List (Int × Int)) := (if ((if mutual1 = true then (decide (one1 < two1)) else (!(decide (one1 = two1)))) && (decide ((T__law_take s2.1 part1.2).1 < part1.1))) = true then ((if (if mutual1 = true then (decide (one1 < two1)) else (!(decide (one1 = two1)))) = true then (T__law_take s2.1 part1.2).2 else s2.1), (if mutual1 = true then (s2.2 ++ ([(one1, two1), (two1, one1)] : List (Int × Int))) else (s2.2 ++ ([(one1, two1)] : List (Int × Int))))) else ((if (if mutual1 = true then (decide (one1 < two1)) else (!(decide (one1 = two1)))) = true then (T__law_take s2.1 part1.2).2 else s2.1), s2.2))
def S__law_net_1 (mutual1 : Bool) (part1 : Int × Int) (one1 : Int) (two1 : Int) (s2 : (List Int) × (List (Int × Int))) : Prop := (((if mutual1 = true then (decide (one1 < two1)) else (!(decide (one1 = two1))))) = true → (S__law_take s2.1 part1.2)) ∧ ((((if mutual1 = true then (decide (one1 < two1)) else (!(decide (one1 = two1)))) && (decide ((T__law_take s2.1 part1.2).1 < part1.1)))) = true → (((mutual1) = true → (s2.2.length + ([(one1, two1), (two1, one1)] : List (Int × Int)).length ≤ sizeLine)) ∧ ((mutual1) = false → (s2.2.length + ([(one1, two1)] : List (Int × Int)).length ≤ sizeLine))))
theorem L__law_net_1 (many1 : Int) (mutual1 : Bool) (part1 : Int × Int) (one1 : Int) (s1 : (List Int) × (List (Int × Int))) (two1 : Int) (s2 : (List Int) × (List (Int × Int))) (h : S__law_net_1 mutual1 part1 one1 two1 s2) : JS [some (.io ((oL cI.e) s2.1)), some (.dt (cI.e many1)), some (.dt (cB.e mutual1)), some (.dt ((cP (rC cI (r1 cI))).e part1)), some (.dt ((cL (cP (rC cI (r1 cI)))).e s2.2)), some (.dt (cI.e one1)), some (.dt (cI.e two1))] b__law_net_2 (Kn (M := (List Int) × (List (Int × Int))) (Kn (M := (Int × (List (Int × Int))) × List Int) (K__law_net) (fun s1 : (List Int) × (List (Int × Int)) => [some (.io ((oL cI.e) s1.1)), some (.dt (cI.e many1)), some (.dt (cB.e mutual1)), some (.dt ((cP (rC cI (r1 cI))).e part1)), some (.dt ((cL (cP (rC cI (r1 cI)))).e s1.2)), none, none])) (fun s2 : (List Int) × (List (Int × Int)) => [some (.io ((oL cI.e) s2.1)), some (.dt (cI.e many1)), some (.dt (cB.e mutual1)), some (.dt ((cP (rC cI (r1 cI))).e part1)), some (.dt ((cL (cP (rC cI (r1 cI)))).e s2.2)), some (.dt (cI.e one1)), none]) (T__law_net_1 mutual1 part1 one1 two1 s2)) := (js_last (js_if (Kn (M := (List Int) × (List (Int × Int))) (Kn (M := (Int × (List (Int × Int))) × List Int) (K__law_net) (fun s1 : (List Int) × (List (Int × Int)) => [some (.io ((oL cI.e) s1.1)), some (.dt (cI.e many1)), some (.dt (cB.e mutual1)), some (.dt ((cP (rC cI (r1 cI))).e part1)), some (.dt ((cL (cP (rC cI (r1 cI)))).e s1.2)), none, none])) (fun s2 : (List Int) × (List (Int × Int)) => [some (.io ((oL cI.e) s2.1)), some (.dt (cI.e many1)), some (.dt (cB.e mutual1)), some (.dt ((cP (rC cI (r1 cI))).e part1)), some (.dt ((cL (cP (rC cI (r1 cI)))).e s2.2)), some (.dt (cI.e one1)), none])) (jt_andX (fun e1 : List Int => [some (.io ((oL cI.e) e1)), some (.dt (cI.e many1)), some (.dt (cB.e mutual1)), some (.dt ((cP (rC cI (r1 cI))).e part1)), some (.dt ((cL (cP (rC cI (r1 cI)))).e s2.2)), some (.dt (cI.e one1)), some (.dt (cI.e two1))]) (s0 := s2.1) (s1 := (T__law_take s2.1 part1.2).2) (jt_if (jt_val (je_name rfl) rfl) (fun hc9 => (jt_val (je_op2 (je_name rfl) (je_name rfl) rfl rfl (o_lt one1 two1)) rfl)) (fun hc10 => (jt_val (je_op2 (je_name rfl) (je_name rfl) rfl rfl (o_ne cI (kle rfl) one1 two1)) rfl))) (fun hc11 => (jt_val (je_op2 (je_callU (ja_cons (je_name rfl) (ja_cons (je_op2 (je_name rfl) je_c rfl rfl (o_ixR 1 rfl (cI.F part1.2))) ja_nil)) (ArgsE.b rfl rfl (ArgsE.v (cI.F part1.2) ArgsE.nil)) (L__law_take s2.1 part1.2 (h.1 hc11)) (nd_of rfl)) (je_op2 (je_name rfl) je_c rfl rfl (o_ixR 0 rfl (cI.F part1.1))) rfl rfl (o_lt (T__law_take s2.1 part1.2).1 part1.1)) rfl))) (fun hc12 => (js_asg (je_if (cL (cP (rC cI (r1 cI)))).e (a := (s2.2 ++ ([(one1, two1), (two1, one1)] : List (Int × Int)))) (b := (s2.2 ++ ([(one1, two1)] : List (Int × Int)))) (jt_val (je_name rfl) rfl) (fun hc13 => (je_fzN (je_ownV (je_op2 (je_name rfl) (je_lst (ja_cons (je_tup (ja_cons (je_fzF (je_ownB (je_name rfl) rfl (cI.F one1)) (cI.F one1)) (ja_cons (je_fzF (je_ownB (je_name rfl) rfl (cI.F two1)) (cI.F two1)) ja_nil)) rfl (sl_le rfl)) (ja_cons (je_tup (ja_cons (je_fzF (je_ownB (je_name rfl) rfl (cI.F two1)) (cI.F two1)) (ja_cons (je_fzF (je_ownB (je_name rfl) rfl (cI.F one1)) (cI.F one1)) ja_nil)) rfl (sl_le rfl)) ja_nil)) rfl (sl_le rfl)) rfl rfl (o_addL (cP (rC cI (r1 cI))) (xs := s2.2) (ys := ([(one1, two1), (two1, one1)] : List (Int × Int))) ((h.2 hc12).1 hc13)))) rfl (frz_oL (cP (rC cI (r1 cI))) (s2.2 ++ ([(one1, two1), (two1, one1)] : List (Int × Int)))))) (fun hc14 => (je_fzN (je_ownV (je_op2 (je_name rfl) (je_lst (ja_cons (je_tup (ja_cons (je_fzF (je_ownB (je_name rfl) rfl (cI.F one1)) (cI.F one1)) (ja_cons (je_fzF (je_ownB (je_name rfl) rfl (cI.F two1)) (cI.F two1)) ja_nil)) rfl (sl_le rfl)) ja_nil) rfl (sl_le rfl)) rfl rfl (o_addL (cP (rC cI (r1 cI))) (xs := s2.2) (ys := ([(one1, two1)] : List (Int × Int))) ((h.2 hc12).2 hc14)))) rfl (frz_oL (cP (rC cI (r1 cI))) (s2.2 ++ ([(one1, two1)] : List (Int × Int))))))) (jg_set rfl) (js_end (kn_nx ⟨rfl, rfl, rfl, rfl, rfl, rfl, le_dt, trivial⟩)))) (fun hc15 => (js_nx (js_end (kn_nx ⟨rfl, rfl, rfl, rfl, rfl, rfl, le_dt, trivial⟩))))))
def T__law_net_2 (s2 : (List Int) × (List (Int × Int))) : (List Int) × (List (Int × Int)) := (s2.1, s2.2)
theorem L__law_net_2 (many1 : Int) (mutual1 : Bool) (part1 : Int × Int) (one1 : Int) (s1 : (List Int) × (List (Int × Int))) (s2 : (List Int) × (List (Int × Int))) : JS [some (.io ((oL cI.e) s2.1)), some (.dt (cI.e many1)), some (.dt (cB.e mutual1)), some (.dt ((cP (rC cI (r1 cI))).e part1)), some (.dt ((cL (cP (rC cI (r1 cI)))).e s2.2)), some (.dt (cI.e one1)), none] fNx (Kn (M := (Int × (List (Int × Int))) × List Int) (K__law_net) (fun s1 : (List Int) × (List (Int × Int)) => [some (.io ((oL cI.e) s1.1)), some (.dt (cI.e many1)), some (.dt (cB.e mutual1)), some (.dt ((cP (rC cI (r1 cI))).e part1)), some (.dt ((cL (cP (rC cI (r1 cI)))).e s1.2)), none, none]) (T__law_net_2 s2)) := (js_end (kn_nx ⟨rfl, rfl, rfl, rfl, rfl, le_dt, trivial, trivial⟩))
def T__law_net_3 (many1 : Int) (mutual1 : Bool) (part1 : Int × Int) (one1 : Int) (s1 : (List Int) × (List (Int × Int))) : (List Int) × (List (Int × Int)) := (T__law_net_2 (forF (fun (two1 : Int) (s2 : (List Int) × (List (Int × Int))) => T__law_net_1 mutual1 part1 one1 two1 s2) (rg many1) (s1.1, s1.2)))
def S__law_net_3 (many1 : Int) (mutual1 : Bool) (part1 : Int × Int) (one1 : Int) (s1 : (List Int) × (List (Int × Int))) : Prop := (Sm many1) ∧ (forSF (fun (two1 : Int) (s2 : (List Int) × (List (Int × Int))) => S__law_net_1 mutual1 part1 one1 two1 s2) (fun (two1 : Int) (s2 : (List Int) × (List (Int × Int))) => T__law_net_1 mutual1 part1 one1 two1 s2) (rg many1) (s1.1, s1.2))
theorem L__law_net_3 (many1 : Int) (mutual1 : Bool) (part1 : Int × Int) (one1 : Int) (s1 : (List Int) × (List (Int × Int))) (h : S__law_net_3 many1 mutual1 part1 one1 s1) : JS [some (.io ((oL cI.e) s1.1)), some (.dt (cI.e many1)), some (.dt (cB.e mutual1)), some (.dt ((cP (rC cI (r1 cI))).e part1)), some (.dt ((cL (cP (rC cI (r1 cI)))).e s1.2)), some (.dt (cI.e one1)), none] b__law_net_3 (Kn (M := (Int × (List (Int × Int))) × List Int) (K__law_net) (fun s1 : (List Int) × (List (Int × Int)) => [some (.io ((oL cI.e) s1.1)), some (.dt (cI.e many1)), some (.dt (cB.e mutual1)), some (.dt ((cP (rC cI (r1 cI))).e part1)), some (.dt ((cL (cP (rC cI (r1 cI)))).e s1.2)), none, none]) (T__law_net_3 many1 mutual1 part1 one1 s1)) := (js_last (js_forF (Kn (M := (Int × (List (Int × Int))) × List Int) (K__law_net) (fun s1 : (List Int) × (List (Int × Int)) => [some (.io ((oL cI.e) s1.1)), some (.dt (cI.e many1)), some (.dt (cB.e mutual1)), some (.dt ((cP (rC cI (r1 cI))).e part1)), some (.dt ((cL (cP (rC cI (r1 cI)))).e s1.2)), none, none])) (fun s2 : (List Int) × (List (Int × Int)) => [some (.io ((oL cI.e) s2.1)), some (.dt (cI.e many1)), some (.dt (cB.e mutual1)), some (.dt ((cP (rC cI (r1 cI))).e part1)), some (.dt ((cL (cP (rC cI (r1 cI)))).e s2.2)), some (.dt (cI.e one1)), none]) cI.e (b := (fun (two1 : Int) (s2 : (List Int) × (List (Int × Int))) => T__law_net_1 mutual1 part1 one1 two1 s2)) (S := (fun (two1 : Int) (s2 : (List Int) × (List (Int × Int))) => S__law_net_1 mutual1 part1 one1 two1 s2)) (mr := (fun (s2 : (List Int) × (List (Int × Int))) => T__law_net_2 s2)) (xs := (rg many1)) (s0 := (s1.1, s1.2)) (ji_rng1 (ja_cons (je_name rfl) ja_nil) (rds1 rfl) h.1) ⟨rfl, rfl, rfl, rfl, rfl, rfl, trivial, trivial⟩ h.2 (fun two1 s2 hb => ⟨_, (jg_set rfl), L__law_net_1 many1 mutual1 part1 one1 s1 two1 s2 hb⟩) (L__law_net_2 many1 mutual1 part1 one1 s1 (forF (fun (two1 : Int) (s2 : (List Int) × (List (Int × Int))) => T__law_net_1 mutual1 part1 one1 two1 s2) (rg many1) (s1.1, s1.2)))))
def T__law_net_4 (many1 : Int) (s1 : (List Int) × (List (Int × Int))) : (Int × (List (Int × Int))) × List Int := ((many1, (srt (cP (rC cI (r1 cI))) s1.2)), s1.1)
def S__law_net_4 (s1 : (List Int) × (List (Int × Int))) : Prop := (s1.2.length ≤ sizeLine)
theorem L__law_net_4 (many1 : Int) (mutual1 : Bool) (part1 : Int × Int) (s1 : (List Int) × (List (Int × Int))) (h : S__law_net_4 s1) : JS [some (.io ((oL cI.e) s1.1)), some (.dt (cI.e many1)), some (.dt (cB.e mutual1)), some (.dt ((cP (rC cI (r1 cI))).e part1)), some (.dt ((cL (cP (rC cI (r1 cI)))).e s1.2)), none, none] b__law_net_4 (K__law_net (T__law_net_4 many1 s1)) := (js_last (js_ret (je_tup (ja_cons (je_fzF (je_ownB (je_name rfl) rfl (cI.F many1)) (cI.F many1)) (ja_cons (je_call (ja_cons (je_call (ja_cons (je_name rfl) ja_nil) (rds1 rfl) (o_srt (so_P (sr_C so_I (sr_1 so_I))) (kle rfl) (xs := s1.2) h)) ja_nil) (rds1 rfl) (o_tuple (cP (rC cI (r1 cI))) (xs := (srt (cP (rC cI (r1 cI))) s1.2)) seqL)) ja_nil)) rfl (sl_le rfl)) (kf_rt rfl)))
def T__law_net_5 (many1 : Int) (mutual1 : Bool) (box2 : List Int) (part1 : Int × Int) (ways1 : List (Int × Int)) : (Int × (List (Int × Int))) × List Int := (T__law_net_4 many1 (forF (fun (one1 : Int) (s1 : (List Int) × (List (Int × Int))) => T__law_net_3 many1 mutual1 part1 one1 s1) (rg many1) (box2, ways1)))
def S__law_net_5 (many1 : Int) (mutual1 : Bool) (box2 : List Int) (part1 : Int × Int) (ways1 : List (Int × Int)) : Prop := (Sm many1) ∧ (forSF (fun (one1 : Int) (s1 : (List Int) × (List (Int × Int))) => S__law_net_3 many1 mutual1 part1 one1 s1) (fun (one1 : Int) (s1 : (List Int) × (List (Int × Int))) => T__law_net_3 many1 mutual1 part1 one1 s1) (rg many1) (box2, ways1)) ∧ (S__law_net_4 (forF (fun (one1 : Int) (s1 : (List Int) × (List (Int × Int))) => T__law_net_3 many1 mutual1 part1 one1 s1) (rg many1) (box2, ways1)))
theorem L__law_net_5 (many1 : Int) (mutual1 : Bool) (box2 : List Int) (part1 : Int × Int) (ways1 : List (Int × Int)) (h : S__law_net_5 many1 mutual1 box2 part1 ways1) : JS [some (.io ((oL cI.e) box2)), some (.dt (cI.e many1)), some (.dt (cB.e mutual1)), some (.dt ((cP (rC cI (r1 cI))).e part1)), some (.dt ((cL (cP (rC cI (r1 cI)))).e ways1)), some .un, some .un] b__law_net_5 (K__law_net (T__law_net_5 many1 mutual1 box2 part1 ways1)) := (js_forF (K__law_net) (fun s1 : (List Int) × (List (Int × Int)) => [some (.io ((oL cI.e) s1.1)), some (.dt (cI.e many1)), some (.dt (cB.e mutual1)), some (.dt ((cP (rC cI (r1 cI))).e part1)), some (.dt ((cL (cP (rC cI (r1 cI)))).e s1.2)), none, none]) cI.e (b := (fun (one1 : Int) (s1 : (List Int) × (List (Int × Int))) => T__law_net_3 many1 mutual1 part1 one1 s1)) (S := (fun (one1 : Int) (s1 : (List Int) × (List (Int × Int))) => S__law_net_3 many1 mutual1 part1 one1 s1)) (mr := (fun (s1 : (List Int) × (List (Int × Int))) => T__law_net_4 many1 s1)) (xs := (rg many1)) (s0 := (box2, ways1)) (ji_rng1 (ja_cons (je_name rfl) ja_nil) (rds1 rfl) h.1) ⟨rfl, rfl, rfl, rfl, rfl, le_un, le_un, trivial⟩ h.2.1 (fun one1 s1 hb => ⟨_, (jg_set rfl), L__law_net_3 many1 mutual1 part1 one1 s1 hb⟩) (L__law_net_4 many1 mutual1 part1 (forF (fun (one1 : Int) (s1 : (List Int) × (List (Int × Int))) => T__law_net_3 many1 mutual1 part1 one1 s1) (rg many1) (box2, ways1)) h.2.2))
def T__law_net (box1 : List Int) (many1 : Int) (mutual1 : Bool) : (Int × (List (Int × Int))) × List Int := (T__law_net_5 many1 mutual1 ((T__law_pick box1 ([((1 : Int), (1 : Int)), ((1 : Int), (2 : Int)), ((2 : Int), (3 : Int)), ((1 : Int), (3 : Int))] : List (Int × Int)) (0, 0)).2) ((T__law_pick box1 ([((1 : Int), (1 : Int)), ((1 : Int), (2 : Int)), ((2 : Int), (3 : Int)), ((1 : Int), (3 : Int))] : List (Int × Int)) (0, 0)).1) ([] : List (Int × Int)))
theorem T__law_net_eq (box1 : List Int) (many1 : Int) (mutual1 : Bool) : T__law_net box1 many1 mutual1 = (T__law_net_5 many1 mutual1 ((T__law_pick box1 ([((1 : Int), (1 : Int)), ((1 : Int), (2 : Int)), ((2 : Int), (3 : Int)), ((1 : Int), (3 : Int))] : List (Int × Int)) (0, 0)).2) ((T__law_pick box1 ([((1 : Int), (1 : Int)), ((1 : Int), (2 : Int)), ((2 : Int), (3 : Int)), ((1 : Int), (3 : Int))] : List (Int × Int)) (0, 0)).1) ([] : List (Int × Int))) := rfl
def S__law_net (box1 : List Int) (many1 : Int) (mutual1 : Bool) : Prop := (S__law_pick box1 ([((1 : Int), (1 : Int)), ((1 : Int), (2 : Int)), ((2 : Int), (3 : Int)), ((1 : Int), (3 : Int))] : List (Int × Int))) ∧ (S__law_net_5 many1 mutual1 ((T__law_pick box1 ([((1 : Int), (1 : Int)), ((1 : Int), (2 : Int)), ((2 : Int), (3 : Int)), ((1 : Int), (3 : Int))] : List (Int × Int)) (0, 0)).2) ((T__law_pick box1 ([((1 : Int), (1 : Int)), ((1 : Int), (2 : Int)), ((2 : Int), (3 : Int)), ((1 : Int), (3 : Int))] : List (Int × Int)) (0, 0)).1) ([] : List (Int × Int)))
theorem S__law_net_eq (box1 : List Int) (many1 : Int) (mutual1 : Bool) : S__law_net box1 many1 mutual1 = ((S__law_pick box1 ([((1 : Int), (1 : Int)), ((1 : Int), (2 : Int)), ((2 : Int), (3 : Int)), ((1 : Int), (3 : Int))] : List (Int × Int))) ∧ (S__law_net_5 many1 mutual1 ((T__law_pick box1 ([((1 : Int), (1 : Int)), ((1 : Int), (2 : Int)), ((2 : Int), (3 : Int)), ((1 : Int), (3 : Int))] : List (Int × Int)) (0, 0)).2) ((T__law_pick box1 ([((1 : Int), (1 : Int)), ((1 : Int), (2 : Int)), ((2 : Int), (3 : Int)), ((1 : Int), (3 : Int))] : List (Int × Int)) (0, 0)).1) ([] : List (Int × Int)))) := rfl
theorem L__law_net (box1 : List Int) (many1 : Int) (mutual1 : Bool) (h : S__law_net box1 many1 mutual1) : F__law_net [((oL cI.e) box1), (cI.e many1), (cB.e mutual1)] = .ok ((cP (rC cI (r1 (cT (cP (rC cI (r1 cI))))))).e ((T__law_net box1 many1 mutual1).1)) [((oL cI.e) (T__law_net box1 many1 mutual1).2), .non, .non] := fn_of (n := 7) (show JS [some (.io ((oL cI.e) box1)), some (.dt (cI.e many1)), some (.dt (cB.e mutual1)), some .un, some .un, some .un, some .un] b__law_net_6 (K__law_net (T__law_net box1 many1 mutual1)) from (js_par (ja_cons (je_callU (ja_cons (je_name rfl) (ja_cons (je_fzN (je_ownV (je_lst (ja_cons (je_tup (ja_cons je_c (ja_cons je_c ja_nil)) rfl (sl_le rfl)) (ja_cons (je_tup (ja_cons je_c (ja_cons je_c ja_nil)) rfl (sl_le rfl)) (ja_cons (je_tup (ja_cons je_c (ja_cons je_c ja_nil)) rfl (sl_le rfl)) (ja_cons (je_tup (ja_cons je_c (ja_cons je_c ja_nil)) rfl (sl_le rfl)) ja_nil)))) rfl (sl_le rfl))) rfl (frz_oL (cP (rC cI (r1 cI))) ([((1 : Int), (1 : Int)), ((1 : Int), (2 : Int)), ((2 : Int), (3 : Int)), ((1 : Int), (3 : Int))] : List (Int × Int)))) ja_nil)) (ArgsE.b rfl rfl (ArgsE.v ((cL (cP (rC cI (r1 cI)))).F ([((1 : Int), (1 : Int)), ((1 : Int), (2 : Int)), ((2 : Int), (3 : Int)), ((1 : Int), (3 : Int))] : List (Int × Int))) ArgsE.nil)) (L__law_pick (cP (rC cI (r1 cI))) (0, 0) box1 ([((1 : Int), (1 : Int)), ((1 : Int), (2 : Int)), ((2 : Int), (3 : Int)), ((1 : Int), (3 : Int))] : List (Int × Int)) seqL ((cL (cP (rC cI (r1 cI)))).F ([((1 : Int), (1 : Int)), ((1 : Int), (2 : Int)), ((2 : Int), (3 : Int)), ((1 : Int), (3 : Int))] : List (Int × Int))) h.1) (nd_of rfl)) (ja_cons (je_fzN (je_ownV (je_lst ja_nil rfl (sl_le rfl))) rfl (frz_oL (cP (rC cI (r1 cI))) ([] : List (Int × Int)))) ja_nil)) rfl (jg_set rfl) (jg_set rfl) (L__law_net_5 many1 mutual1 ((T__law_pick box1 ([((1 : Int), (1 : Int)), ((1 : Int), (2 : Int)), ((2 : Int), (3 : Int)), ((1 : Int), (3 : Int))] : List (Int × Int)) (0, 0)).2) ((T__law_pick box1 ([((1 : Int), (1 : Int)), ((1 : Int), (2 : Int)), ((2 : Int), (3 : Int)), ((1 : Int), (3 : Int))] : List (Int × Int)) (0, 0)).1) ([] : List (Int × Int)) h.2)))
def K__law_within (m : Bool) : Fl → Rho → Prop := Kf [false, false] (cB.e m) [.non, .non]
def T__law_within (one1 : List Int) (two1 : List Int) : Bool := (decide (((one1.filter fun (house1 : Int) => (!(memB house1 two1))).map fun (house1 : Int) => (1 : Int)) = ([] : List Int)))
theorem T__law_within_eq (one1 : List Int) (two1 : List Int) : T__law_within one1 two1 = (decide (((one1.filter fun (house1 : Int) => (!(memB house1 two1))).map fun (house1 : Int) => (1 : Int)) = ([] : List Int))) := rfl
def S__law_within (one1 : List Int) (two1 : List Int) : Prop := (one1.length ≤ sizeLine)
theorem S__law_within_eq (one1 : List Int) (two1 : List Int) : S__law_within one1 two1 = (one1.length ≤ sizeLine) := rfl
theorem L__law_within (one1 : List Int) (two1 : List Int) (h : S__law_within one1 two1) : F__law_within [((cT cI).e one1), ((cT cI).e two1)] = .ok (cB.e (T__law_within one1 two1)) [.non, .non] := fn_of (n := 3) (show JS [some (.dt ((cT cI).e one1)), some (.dt ((cT cI).e two1)), some .un] b__law_within_3 (K__law_within (T__law_within one1 two1)) from (js_last (js_ret (je_op2 (je_lcP cI.e cI.e (c := fun (house1 : Int) => (!(memB house1 two1))) (f := fun (house1 : Int) => (1 : Int)) (S := (fun _ => True)) (xs := one1) (Γx := (fun house1 : Int => [some (.dt ((cT cI).e one1)), some (.dt ((cT cI).e two1)), some (.dt (cI.e house1))])) (ji_seqT (je_fzF (je_ownB (je_name rfl) rfl ((cT cI).F one1)) ((cT cI).F one1))) rfl h (fun _ _ => True.intro) (fun house1 => (jg_set rfl)) (fun house1 hx => (jt_val (je_op2 (je_name rfl) (je_name rfl) rfl rfl (o_nin cI (kle rfl) (xs := two1) seqT house1)) rfl)) (fun house1 hx hc16 => je_c) (fun _ => rfl) (back_any back_nil rfl)) (je_lst ja_nil rfl (sl_le rfl)) rfl rfl (o_eqL cI (kle rfl) ((one1.filter fun (house1 : Int) => (!(memB house1 two1))).map fun (house1 : Int) => (1 : Int)) ([] : List Int))) (kf_rt rfl))))
def K__law_greatest (m : List (List Int)) : Fl → Rho → Prop := Kf [false] ((cT (cT cI)).e m) [.non]
def T__law_greatest_1 (unlike1 : List (List Int)) : List (List Int) := ((unlike1.filter fun (one2 : List Int) => (decide (((unlike1.filter fun (two2 : List Int) => ((!(decide (one2 = two2))) && (T__law_within one2 two2))).map fun (two2 : List Int) => (1 : Int)) = ([] : List Int)))).map fun (one2 : List Int) => one2)
def S__law_greatest_1 (unlike1 : List (List Int)) : Prop := (unlike1.length ≤ sizeLine) ∧ (∀ one2 ∈ unlike1, (unlike1.length ≤ sizeLine) ∧ (∀ two2 ∈ unlike1, (((!(decide (one2 = two2)))) = true → (S__law_within one2 two2))))
theorem L__law_greatest_1 (lots1 : List (List Int)) (unlike1 : List (List Int)) (h : S__law_greatest_1 unlike1) : JS [some (.dt ((cL (cT cI)).e lots1)), some (.dt ((cL (cT cI)).e unlike1)), some .un, some .un] b__law_greatest_5 (K__law_greatest (T__law_greatest_1 unlike1)) := (js_last (js_ret (je_call (ja_cons (je_lcP (cT cI).e (cT cI).e (c := fun (one2 : List Int) => (decide (((unlike1.filter fun (two2 : List Int) => ((!(decide (one2 = two2))) && (T__law_within one2 two2))).map fun (two2 : List Int) => (1 : Int)) = ([] : List Int)))) (f := fun (one2 : List Int) => one2) (S := (fun one2 : List Int => (unlike1.length ≤ sizeLine) ∧ (∀ two2 ∈ unlike1, (((!(decide (one2 = two2)))) = true → (S__law_within one2 two2))))) (xs := unlike1) (Γx := (fun one2 : List Int => [some (.dt ((cL (cT cI)).e lots1)), some (.dt ((cL (cT cI)).e unlike1)), some (.dt ((cT cI).e one2)), none])) (ji_le (Γ2 := [some (.dt ((cL (cT cI)).e lots1)), some (.dt ((cL (cT cI)).e unlike1)), some .un, none]) (ji_seqL (je_fzF (je_ownB (je_name rfl) rfl ((cL (cT cI)).F unlike1)) ((cL (cT cI)).F unlike1))) ⟨rfl, rfl, rfl, le_un, trivial⟩) rfl h.1 h.2 (fun one2 => (jg_set rfl)) (fun one2 hx => (jt_val (je_op2 (je_lcP (cT cI).e cI.e (c := fun (two2 : List Int) => ((!(decide (one2 = two2))) && (T__law_within one2 two2))) (f := fun (two2 : List Int) => (1 : Int)) (S := (fun two2 : List Int => (((!(decide (one2 = two2)))) = true → (S__law_within one2 two2)))) (xs := unlike1) (Γx := (fun two2 : List Int => [some (.dt ((cL (cT cI)).e lots1)), some (.dt ((cL (cT cI)).e unlike1)), some (.dt ((cT cI).e one2)), some (.dt ((cT cI).e two2))])) (ji_seqL (je_fzF (je_ownB (je_name rfl) rfl ((cL (cT cI)).F unlike1)) ((cL (cT cI)).F unlike1))) rfl hx.1 hx.2 (fun two2 => (jg_set rfl)) (fun two2 hx => (jt_and (jt_val (je_op2 (je_name rfl) (je_name rfl) rfl rfl (o_ne (cT cI) (kle rfl) one2 two2)) rfl) (fun hc20 => (jt_val (je_callP (ja_cons (je_fzF (je_ownB (je_name rfl) rfl ((cT cI).F one2)) ((cT cI).F one2)) (ja_cons (je_fzF (je_ownB (je_name rfl) rfl ((cT cI).F two2)) ((cT cI).F two2)) ja_nil)) (ArgsE.v ((cT cI).F one2) (ArgsE.v ((cT cI).F two2) ArgsE.nil)) (L__law_within one2 two2 (hx hc20)) rfl) rfl)))) (fun two2 hx hc21 => je_c) (fun _ => rfl) (back_any back_nil rfl)) (je_lst ja_nil rfl (sl_le rfl)) rfl rfl (o_eqL cI (kle rfl) ((unlike1.filter fun (two2 : List Int) => ((!(decide (one2 = two2))) && (T__law_within one2 two2))).map fun (two2 : List Int) => (1 : Int)) ([] : List Int))) rfl)) (fun one2 hx hc22 => (je_fzF (je_ownB (je_name rfl) rfl ((cT cI).F one2)) ((cT cI).F one2))) (fun _ => rfl) (back_any back_nil rfl)) ja_nil) (rds1 rfl) (o_tuple (cT cI) (xs := ((unlike1.filter fun (one2 : List Int) => (decide (((unlike1.filter fun (two2 : List Int) => ((!(decide (one2 = two2))) && (T__law_within one2 two2))).map fun (two2 : List Int) => (1 : Int)) = ([] : List Int)))).map fun (one2 : List Int) => one2)) seqL)) (kf_rt rfl)))
def T__law_greatest (lots1 : List (List Int)) : List (List Int) := (T__law_greatest_1 (sset (cT cI) lots1))
theorem T__law_greatest_eq (lots1 : List (List Int)) : T__law_greatest lots1 = (T__law_greatest_1 (sset (cT cI) lots1)) := rfl
def S__law_greatest (lots1 : List (List Int)) : Prop := (lots1.length < 64) ∧ (S__law_greatest_1 (sset (cT cI) lots1))
theorem S__law_greatest_eq (lots1 : List (List Int)) : S__law_greatest lots1 = ((lots1.length < 64) ∧ (S__law_greatest_1 (sset (cT cI) lots1))) := rfl
theorem L__law_greatest (lots1 : List (List Int)) (h : S__law_greatest lots1) : F__law_greatest [((cL (cT cI)).e lots1)] = .ok ((cT (cT cI)).e (T__law_greatest lots1)) [.non] := fn_of (n := 4) (show JS [some (.dt ((cL (cT cI)).e lots1)), some .un, some .un, some .un] b__law_greatest_6 (K__law_greatest (T__law_greatest lots1)) from (js_asg (je_fzN (je_ownV (je_call (ja_cons (je_name rfl) ja_nil) (rds1 rfl) (o_sset se_T (xs := lots1) seqL h.1))) rfl (frz_oL (cT cI) (sset (cT cI) lots1))) (jg_set rfl) (L__law_greatest_1 lots1 (sset (cT cI) lots1) h.2)))
def K__law_drawn_lot (m : List Int × List Int) : Fl → Rho → Prop := Kf [true, false, false] ((cT cI).e m.1) [((oL cI.e) m.2), .non, .non]
def T__law_drawn_lot (box1 : List Int) (houses1 : List Int) (part1 : Int) : List Int × List Int := ((lcX (fun (house1 : Int) (s1 : List Int) => if (decide ((T__law_take s1 part1).1 = (0 : Int))) = true then (some house1, (T__law_take s1 part1).2) else (none, (T__law_take s1 part1).2)) houses1 box1).1, (lcX (fun (house1 : Int) (s1 : List Int) => if (decide ((T__law_take s1 part1).1 = (0 : Int))) = true then (some house1, (T__law_take s1 part1).2) else (none, (T__law_take s1 part1).2)) houses1 box1).2)
theorem T__law_drawn_lot_eq (box1 : List Int) (houses1 : List Int) (part1 : Int) : T__law_drawn_lot box1 houses1 part1 = ((lcX (fun (house1 : Int) (s1 : List Int) => if (decide ((T__law_take s1 part1).1 = (0 : Int))) = true then (some house1, (T__law_take s1 part1).2) else (none, (T__law_take s1 part1).2)) houses1 box1).1, (lcX (fun (house1 : Int) (s1 : List Int) => if (decide ((T__law_take s1 part1).1 = (0 : Int))) = true then (some house1, (T__law_take s1 part1).2) else (none, (T__law_take s1 part1).2)) houses1 box1).2) := rfl
def S__law_drawn_lot (box1 : List Int) (houses1 : List Int) (part1 : Int) : Prop := (houses1.length ≤ sizeLine) ∧ (lcSX (fun (house1 : Int) (s1 : List Int) => (S__law_take s1 part1)) (fun (house1 : Int) (s1 : List Int) => if (decide ((T__law_take s1 part1).1 = (0 : Int))) = true then (some house1, (T__law_take s1 part1).2) else (none, (T__law_take s1 part1).2)) houses1 box1)
theorem S__law_drawn_lot_eq (box1 : List Int) (houses1 : List Int) (part1 : Int) : S__law_drawn_lot box1 houses1 part1 = ((houses1.length ≤ sizeLine) ∧ (lcSX (fun (house1 : Int) (s1 : List Int) => (S__law_take s1 part1)) (fun (house1 : Int) (s1 : List Int) => if (decide ((T__law_take s1 part1).1 = (0 : Int))) = true then (some house1, (T__law_take s1 part1).2) else (none, (T__law_take s1 part1).2)) houses1 box1)) := rfl
theorem L__law_drawn_lot (box1 : List Int) (houses1 : List Int) (part1 : Int) (h : S__law_drawn_lot box1 houses1 part1) : F__law_drawn_lot [((oL cI.e) box1), ((cT cI).e houses1), (cI.e part1)] = .ok ((cT cI).e ((T__law_drawn_lot box1 houses1 part1).1)) [((oL cI.e) (T__law_drawn_lot box1 houses1 part1).2), .non, .non] := fn_of (n := 4) (show JS [some (.io ((oL cI.e) box1)), some (.dt ((cT cI).e houses1)), some (.dt (cI.e part1)), some .un] b__law_drawn_lot_3 (K__law_drawn_lot (T__law_drawn_lot box1 houses1 part1)) from (js_last (js_ret (je_call (ja_cons (je_lcS cI.e cI.e (fun s1 : List Int => [some (.io ((oL cI.e) s1)), some (.dt ((cT cI).e houses1)), some (.dt (cI.e part1)), some .un]) (fun s1 : List Int => [some (.io ((oL cI.e) s1)), some (.dt ((cT cI).e houses1)), some (.dt (cI.e part1)), none]) (b := (fun (house1 : Int) (s1 : List Int) => if (decide ((T__law_take s1 part1).1 = (0 : Int))) = true then (some house1, (T__law_take s1 part1).2) else (none, (T__law_take s1 part1).2))) (S := (fun (house1 : Int) (s1 : List Int) => (S__law_take s1 part1))) (xs := houses1) (s0 := box1) (ji_seqT (je_fzF (je_ownB (je_name rfl) rfl ((cT cI).F houses1)) ((cT cI).F houses1))) rfl h.1 h.2 (fun house1 s1 hx => ⟨_, [some (.io ((oL cI.e) ((T__law_take s1 part1).2))), some (.dt ((cT cI).e houses1)), some (.dt (cI.e part1)), some (.dt (cI.e house1))], [some (.io ((oL cI.e) ((T__law_take s1 part1).2))), some (.dt ((cT cI).e houses1)), some (.dt (cI.e part1)), some (.dt (cI.e house1))], (decide ((T__law_take s1 part1).1 = (0 : Int))), house1, (jg_set rfl), (jt_val (je_op2 (je_callU (ja_cons (je_name rfl) (ja_cons (je_fzF (je_ownB (je_name rfl) rfl (cI.F part1)) (cI.F part1)) ja_nil)) (ArgsE.b rfl rfl (ArgsE.v (cI.F part1) ArgsE.nil)) (L__law_take s1 part1 hx) (nd_of rfl)) je_c rfl rfl (o_eq cI (kle rfl) ((T__law_take s1 part1).1) (0 : Int))) rfl), fun hc24 => (je_fzF (je_ownB (je_name rfl) rfl (cI.F house1)) (cI.F house1)), (fun hc => ⟨by simp only [hc]; rfl, by simp only [hc]; rfl⟩), (fun hc => ⟨by simp only [hc]; rfl, by simp only [hc]; rfl⟩)⟩) (fun s1 => (back_any back_nil rfl))) ja_nil) (rds1 rfl) (o_tuple cI (xs := (lcX (fun (house1 : Int) (s1 : List Int) => if (decide ((T__law_take s1 part1).1 = (0 : Int))) = true then (some house1, (T__law_take s1 part1).2) else (none, (T__law_take s1 part1).2)) houses1 box1).1) seqL)) (kf_rt rfl))))
def K__law_liars (m : List (List Int) × List Int) : Fl → Rho → Prop := Kf [true, false] ((cT (cT cI)).e m.1) [((oL cI.e) m.2), .non]
def T__law_liars_1 (size1 : Int) (house1 : Int) (s1 : List (List Int)) : List (List Int) := (s1 ++ ((s1.filter fun (one1 : List Int) => (decide ((one1.length : Int) < size1))).map fun (one1 : List Int) => (one1 ++ ([house1] : List Int))))
def S__law_liars_1 (size1 : Int) (house1 : Int) (s1 : List (List Int)) : Prop := (s1.length ≤ sizeLine) ∧ (∀ one1 ∈ s1, (((decide ((one1.length : Int) < size1))) = true → (one1.length + ([house1] : List Int).length ≤ sizeLine))) ∧ (s1.length + ((s1.filter fun (one1 : List Int) => (decide ((one1.length : Int) < size1))).map fun (one1 : List Int) => (one1 ++ ([house1] : List Int))).length ≤ sizeLine)
theorem L__law_liars_1 (many1 : Int) (houses1 : List Int) (way1 : Int) (box3 : List Int) (size1 : Int) (house1 : Int) (s1 : List (List Int)) (h : S__law_liars_1 size1 house1 s1) : JS [some (.io ((oL cI.e) box3)), some (.dt (cI.e many1)), some (.dt ((cT cI).e houses1)), some (.dt (cI.e way1)), some (.dt (cI.e size1)), some (.dt ((cL (cT cI)).e s1)), some (.dt (cI.e house1)), some .un, some .un, none] b__law_liars_4 (Kn (M := List (List Int) × List Int) (K__law_liars) (fun s1 : List (List Int) => [some (.io ((oL cI.e) box3)), some (.dt (cI.e many1)), some (.dt ((cT cI).e houses1)), some (.dt (cI.e way1)), some (.dt (cI.e size1)), some (.dt ((cL (cT cI)).e s1)), none, some .un, some .un, none]) (T__law_liars_1 size1 house1 s1)) := (js_last (js_asg (je_fzN (je_ownV (je_op2 (je_name rfl) (je_lcP (cT cI).e (cT cI).e (c := fun (one1 : List Int) => (decide ((one1.length : Int) < size1))) (f := fun (one1 : List Int) => (one1 ++ ([house1] : List Int))) (S := (fun one1 : List Int => (((decide ((one1.length : Int) < size1))) = true → (one1.length + ([house1] : List Int).length ≤ sizeLine)))) (xs := s1) (Γx := (fun one1 : List Int => [some (.io ((oL cI.e) box3)), some (.dt (cI.e many1)), some (.dt ((cT cI).e houses1)), some (.dt (cI.e way1)), some (.dt (cI.e size1)), some (.dt ((cL (cT cI)).e s1)), some (.dt (cI.e house1)), some .un, some .un, some (.dt ((cT cI).e one1))])) (ji_seqL (je_fzF (je_ownB (je_name rfl) rfl ((cL (cT cI)).F s1)) ((cL (cT cI)).F s1))) rfl h.1 h.2.1 (fun one1 => (jg_set rfl)) (fun one1 hx => (jt_val (je_op2 (je_call (ja_cons (je_name rfl) ja_nil) (rds1 rfl) (o_len cI.e (xs := one1) seqT)) (je_name rfl) rfl rfl (o_lt (one1.length : Int) size1)) rfl)) (fun one1 hx hc28 => (je_op2 (je_name rfl) (je_tup (ja_cons (je_fzF (je_ownB (je_name rfl) rfl (cI.F house1)) (cI.F house1)) ja_nil) rfl (sl_le rfl)) rfl rfl (o_addT cI (xs := one1) (ys := ([house1] : List Int)) (hx hc28)))) (fun _ => rfl) (back_any back_nil rfl)) rfl rfl (o_addL (cT cI) (xs := s1) (ys := ((s1.filter fun (one1 : List Int) => (decide ((one1.length : Int) < size1))).map fun (one1 : List Int) => (one1 ++ ([house1] : List Int)))) h.2.2))) rfl (frz_oL (cT cI) (s1 ++ ((s1.filter fun (one1 : List Int) => (decide ((one1.length : Int) < size1))).map fun (one1 : List Int) => (one1 ++ ([house1] : List Int)))))) (jg_set rfl) (js_end (kn_nx ⟨rfl, rfl, rfl, rfl, rfl, rfl, le_dt, rfl, rfl, trivial, trivial⟩))))
def T__law_liars_2 (box3 : List Int) (size1 : Int) (s1 : List (List Int)) : List (List Int) × List Int := ((T__law_greatest (cutF ((s1.filter fun (one2 : List Int) => (decide ((one2.length : Int) = size1))).map fun (one2 : List Int) => one2) none (some (40 : Int)))), box3)
def S__law_liars_2 (size1 : Int) (s1 : List (List Int)) : Prop := (s1.length ≤ sizeLine) ∧ (S__law_greatest (cutF ((s1.filter fun (one2 : List Int) => (decide ((one2.length : Int) = size1))).map fun (one2 : List Int) => one2) none (some (40 : Int))))
theorem L__law_liars_2 (many1 : Int) (houses1 : List Int) (way1 : Int) (box3 : List Int) (size1 : Int) (s1 : List (List Int)) (h : S__law_liars_2 size1 s1) : JS [some (.io ((oL cI.e) box3)), some (.dt (cI.e many1)), some (.dt ((cT cI).e houses1)), some (.dt (cI.e way1)), some (.dt (cI.e size1)), some (.dt ((cL (cT cI)).e s1)), none, some .un, some .un, none] (fSeq b__law_liars_7 b__law_liars_13) (K__law_liars (T__law_liars_2 box3 size1 s1)) := (js_ret (je_callP (ja_cons (je_fzN (je_ownV (je_cutL (cT cI) (xs := ((s1.filter fun (one2 : List Int) => (decide ((one2.length : Int) = size1))).map fun (one2 : List Int) => one2)) (je_lcP (cT cI).e (cT cI).e (c := fun (one2 : List Int) => (decide ((one2.length : Int) = size1))) (f := fun (one2 : List Int) => one2) (S := (fun _ => True)) (xs := s1) (Γx := (fun one2 : List Int => [some (.io ((oL cI.e) box3)), some (.dt (cI.e many1)), some (.dt ((cT cI).e houses1)), some (.dt (cI.e way1)), some (.dt (cI.e size1)), some (.dt ((cL (cT cI)).e s1)), none, some .un, some .un, some (.dt ((cT cI).e one2))])) (ji_seqL (je_fzF (je_ownB (je_name rfl) rfl ((cL (cT cI)).F s1)) ((cL (cT cI)).F s1))) rfl h.1 (fun _ _ => True.intro) (fun one2 => (jg_set rfl)) (fun one2 hx => (jt_val (je_op2 (je_call (ja_cons (je_name rfl) ja_nil) (rds1 rfl) (o_len cI.e (xs := one2) seqT)) (je_name rfl) rfl rfl (o_eq cI (kle rfl) (one2.length : Int) size1)) rfl)) (fun one2 hx hc29 => (je_fzF (je_ownB (je_name rfl) rfl ((cT cI).F one2)) ((cT cI).F one2))) (fun _ => rfl) (back_any back_nil rfl)) jo_no (jo_some je_c rfl) rfl)) rfl (frz_oL (cT cI) (cutF ((s1.filter fun (one2 : List Int) => (decide ((one2.length : Int) = size1))).map fun (one2 : List Int) => one2) none (some (40 : Int))))) ja_nil) (ArgsE.v ((cL (cT cI)).F (cutF ((s1.filter fun (one2 : List Int) => (decide ((one2.length : Int) = size1))).map fun (one2 : List Int) => one2) none (some (40 : Int)))) ArgsE.nil) (L__law_greatest (cutF ((s1.filter fun (one2 : List Int) => (decide ((one2.length : Int) = size1))).map fun (one2 : List Int) => one2) none (some (40 : Int))) h.2) rfl) (kf_rt rfl))
def T__law_liars_3 (houses1 : List Int) (box3 : List Int) (size1 : Int) (found1 : List (List Int)) : List (List Int) × List Int := (T__law_liars_2 box3 size1 (forF (fun (house1 : Int) (s1 : List (List Int)) => T__law_liars_1 size1 house1 s1) houses1 found1))
def S__law_liars_3 (houses1 : List Int) (size1 : Int) (found1 : List (List Int)) : Prop := (forSF (fun (house1 : Int) (s1 : List (List Int)) => S__law_liars_1 size1 house1 s1) (fun (house1 : Int) (s1 : List (List Int)) => T__law_liars_1 size1 house1 s1) houses1 found1) ∧ (S__law_liars_2 size1 (forF (fun (house1 : Int) (s1 : List (List Int)) => T__law_liars_1 size1 house1 s1) houses1 found1))
theorem L__law_liars_3 (many1 : Int) (houses1 : List Int) (way1 : Int) (box3 : List Int) (size1 : Int) (found1 : List (List Int)) (h : S__law_liars_3 houses1 size1 found1) : JS [some (.io ((oL cI.e) box3)), some (.dt (cI.e many1)), some (.dt ((cT cI).e houses1)), some (.dt (cI.e way1)), some (.dt (cI.e size1)), some (.dt ((cL (cT cI)).e found1)), some .un, some .un, some .un, some .un] (fSeq b__law_liars_8 b__law_liars_13) (K__law_liars (T__law_liars_3 houses1 box3 size1 found1)) := (js_assoc (js_forF (K__law_liars) (fun s1 : List (List Int) => [some (.io ((oL cI.e) box3)), some (.dt (cI.e many1)), some (.dt ((cT cI).e houses1)), some (.dt (cI.e way1)), some (.dt (cI.e size1)), some (.dt ((cL (cT cI)).e s1)), none, some .un, some .un, none]) cI.e (b := (fun (house1 : Int) (s1 : List (List Int)) => T__law_liars_1 size1 house1 s1)) (S := (fun (house1 : Int) (s1 : List (List Int)) => S__law_liars_1 size1 house1 s1)) (mr := (fun (s1 : List (List Int)) => T__law_liars_2 box3 size1 s1)) (xs := houses1) (s0 := found1) (ji_seqT (je_fzF (je_ownB (je_name rfl) rfl ((cT cI).F houses1)) ((cT cI).F houses1))) ⟨rfl, rfl, rfl, rfl, rfl, rfl, le_un, rfl, rfl, le_un, trivial⟩ h.1 (fun house1 s1 hb => ⟨_, (jg_set rfl), L__law_liars_1 many1 houses1 way1 box3 size1 house1 s1 hb⟩) (L__law_liars_2 many1 houses1 way1 box3 size1 (forF (fun (house1 : Int) (s1 : List (List Int)) => T__law_liars_1 size1 house1 s1) houses1 found1) h.2)))
def T__law_liars_4 (houses1 : List Int) (box3 : List Int) (size1 : Int) : List (List Int) × List Int := (T__law_liars_3 houses1 box3 size1 ([([] : List Int)] : List (List Int)))
def S__law_liars_4 (houses1 : List Int) (size1 : Int) : Prop := (S__law_liars_3 houses1 size1 ([([] : List Int)] : List (List Int)))
theorem L__law_liars_4 (many1 : Int) (houses1 : List Int) (way1 : Int) (box3 : List Int) (size1 : Int) (h : S__law_liars_4 houses1 size1) : JS [some (.io ((oL cI.e) box3)), some (.dt (cI.e many1)), some (.dt ((cT cI).e houses1)), some (.dt (cI.e way1)), some (.dt (cI.e size1)), some .un, some .un, some .un, some .un, some .un] (fSeq b__law_liars_9 b__law_liars_13) (K__law_liars (T__law_liars_4 houses1 box3 size1)) := (js_assoc (js_asg (je_fzN (je_ownV (je_lst (ja_cons (je_tup ja_nil rfl (sl_le rfl)) ja_nil) rfl (sl_le rfl))) rfl (frz_oL (cT cI) ([([] : List Int)] : List (List Int)))) (jg_set rfl) (L__law_liars_3 many1 houses1 way1 box3 size1 ([([] : List Int)] : List (List Int)) h)))
def T__law_liars_5 (box4 : List Int) (lots1 : List (List Int)) : List (List Int) × List Int := ((T__law_greatest lots1), box4)
def S__law_liars_5 (lots1 : List (List Int)) : Prop := (S__law_greatest lots1)
theorem L__law_liars_5 (many1 : Int) (houses1 : List Int) (way1 : Int) (box4 : List Int) (lots1 : List (List Int)) (h : S__law_liars_5 lots1) : JS [some (.io ((oL cI.e) box4)), some (.dt (cI.e many1)), some (.dt ((cT cI).e houses1)), some (.dt (cI.e way1)), some .un, some .un, some .un, some (.dt ((cL (cT cI)).e lots1)), none, some .un] b__law_liars_12 (K__law_liars (T__law_liars_5 box4 lots1)) := (js_last (js_ret (je_callP (ja_cons (je_fzF (je_ownB (je_name rfl) rfl ((cL (cT cI)).F lots1)) ((cL (cT cI)).F lots1)) ja_nil) (ArgsE.v ((cL (cT cI)).F lots1) ArgsE.nil) (L__law_greatest lots1 h) rfl) (kf_rt rfl)))
def T__law_liars_6 (many1 : Int) (box2 : List Int) (houses1 : List Int) (way1 : Int) : List (List Int) × List Int := (if (decide (way1 = (0 : Int))) = true then (([([] : List Int)] : List (List Int)), box2) else (if (decide (way1 < (3 : Int))) = true then (T__law_liars_4 houses1 ((T__law_take box2 (many1 + (1 : Int))).2) ((T__law_take box2 (many1 + (1 : Int))).1)) else (T__law_liars_5 ((lcX (fun (turn1 : Int) (s2 : List Int) => (some ((T__law_drawn_lot ((T__law_pick s2 ([(2 : Int), (3 : Int), (4 : Int)] : List Int) 0).2) houses1 ((T__law_pick s2 ([(2 : Int), (3 : Int), (4 : Int)] : List Int) 0).1)).1), (T__law_drawn_lot ((T__law_pick s2 ([(2 : Int), (3 : Int), (4 : Int)] : List Int) 0).2) houses1 ((T__law_pick s2 ([(2 : Int), (3 : Int), (4 : Int)] : List Int) 0).1)).2)) (rg ((1 : Int) + (T__law_take box2 (5 : Int)).1)) ((T__law_take box2 (5 : Int)).2)).2) ((lcX (fun (turn1 : Int) (s2 : List Int) => (some ((T__law_drawn_lot ((T__law_pick s2 ([(2 : Int), (3 : Int), (4 : Int)] : List Int) 0).2) houses1 ((T__law_pick s2 ([(2 : Int), (3 : Int), (4 : Int)] : List Int) 0).1)).1), (T__law_drawn_lot ((T__law_pick s2 ([(2 : Int), (3 : Int), (4 : Int)] : List Int) 0).2) houses1 ((T__law_pick s2 ([(2 : Int), (3 : Int), (4 : Int)] : List Int) 0).1)).2)) (rg ((1 : Int) + (T__law_take box2 (5 : Int)).1)) ((T__law_take box2 (5 : Int)).2)).1))))
def S__law_liars_6 (many1 : Int) (box2 : List Int) (houses1 : List Int) (way1 : Int) : Prop := (((decide (way1 = (0 : Int)))) = false → ((((decide (way1 < (3 : Int)))) = true → ((S__law_take box2 (many1 + (1 : Int))) ∧ (S__law_liars_4 houses1 ((T__law_take box2 (many1 + (1 : Int))).1)))) ∧ (((decide (way1 < (3 : Int)))) = false → ((S__law_take box2 (5 : Int)) ∧ (Sm ((1 : Int) + (T__law_take box2 (5 : Int)).1)) ∧ ((rg ((1 : Int) + (T__law_take box2 (5 : Int)).1)).length ≤ sizeLine) ∧ (lcSX (fun (turn1 : Int) (s2 : List Int) => (S__law_pick s2 ([(2 : Int), (3 : Int), (4 : Int)] : List Int)) ∧ (S__law_drawn_lot ((T__law_pick s2 ([(2 : Int), (3 : Int), (4 : Int)] : List Int) 0).2) houses1 ((T__law_pick s2 ([(2 : Int), (3 : Int), (4 : Int)] : List Int) 0).1))) (fun (turn1 : Int) (s2 : List Int) => (some ((T__law_drawn_lot ((T__law_pick s2 ([(2 : Int), (3 : Int), (4 : Int)] : List Int) 0).2) houses1 ((T__law_pick s2 ([(2 : Int), (3 : Int), (4 : Int)] : List Int) 0).1)).1), (T__law_drawn_lot ((T__law_pick s2 ([(2 : Int), (3 : Int), (4 : Int)] : List Int) 0).2) houses1 ((T__law_pick s2 ([(2 : Int), (3 : Int), (4 : Int)] : List Int) 0).1)).2)) (rg ((1 : Int) + (T__law_take box2 (5 : Int)).1)) ((T__law_take box2 (5 : Int)).2)) ∧ (S__law_liars_5 ((lcX (fun (turn1 : Int) (s2 : List Int) => (some ((T__law_drawn_lot ((T__law_pick s2 ([(2 : Int), (3 : Int), (4 : Int)] : List Int) 0).2) houses1 ((T__law_pick s2 ([(2 : Int), (3 : Int), (4 : Int)] : List Int) 0).1)).1), (T__law_drawn_lot ((T__law_pick s2 ([(2 : Int), (3 : Int), (4 : Int)] : List Int) 0).2) houses1 ((T__law_pick s2 ([(2 : Int), (3 : Int), (4 : Int)] : List Int) 0).1)).2)) (rg ((1 : Int) + (T__law_take box2 (5 : Int)).1)) ((T__law_take box2 (5 : Int)).2)).1))))))
theorem L__law_liars_6 (many1 : Int) (box2 : List Int) (houses1 : List Int) (way1 : Int) (h : S__law_liars_6 many1 box2 houses1 way1) : JS [some (.io ((oL cI.e) box2)), some (.dt (cI.e many1)), some (.dt ((cT cI).e houses1)), some (.dt (cI.e way1)), some .un, some .un, some .un, some .un, some .un, some .un] b__law_liars_15 (K__law_liars (T__law_liars_6 many1 box2 houses1 way1)) := (js_if (K__law_liars) (jt_val (je_op2 (je_name rfl) je_c rfl rfl (o_eq cI (kle rfl) way1 (0 : Int))) rfl) (fun hc25 => (js_ret (je_tup (ja_cons (je_tup ja_nil rfl (sl_le rfl)) ja_nil) rfl (sl_le rfl)) (kf_rt rfl))) (fun hc26 => (js_nx (js_if (K__law_liars) (jt_val (je_op2 (je_name rfl) je_c rfl rfl (o_lt way1 (3 : Int))) rfl) (fun hc27 => (js_assoc (js_asg (je_callU (ja_cons (je_name rfl) (ja_cons (je_op2 (je_name rfl) je_c rfl rfl (o_addI many1 (1 : Int))) ja_nil)) (ArgsE.b rfl rfl (ArgsE.v (cI.F (many1 + (1 : Int))) ArgsE.nil)) (L__law_take box2 (many1 + (1 : Int)) ((h hc26).1 hc27).1) (nd_of rfl)) (jg_set rfl) (L__law_liars_4 many1 houses1 way1 ((T__law_take box2 (many1 + (1 : Int))).2) ((T__law_take box2 (many1 + (1 : Int))).1) ((h hc26).1 hc27).2)))) (fun hc30 => (js_nx (js_assoc (js_asg (je_lcS cI.e (cT cI).e (fun s2 : List Int => [some (.io ((oL cI.e) s2)), some (.dt (cI.e many1)), some (.dt ((cT cI).e houses1)), some (.dt (cI.e way1)), some .un, some .un, some .un, some .un, some .un, some .un]) (fun s2 : List Int => [some (.io ((oL cI.e) s2)), some (.dt (cI.e many1)), some (.dt ((cT cI).e houses1)), some (.dt (cI.e way1)), some .un, some .un, some .un, some .un, none, some .un]) (b := (fun (turn1 : Int) (s2 : List Int) => (some ((T__law_drawn_lot ((T__law_pick s2 ([(2 : Int), (3 : Int), (4 : Int)] : List Int) 0).2) houses1 ((T__law_pick s2 ([(2 : Int), (3 : Int), (4 : Int)] : List Int) 0).1)).1), (T__law_drawn_lot ((T__law_pick s2 ([(2 : Int), (3 : Int), (4 : Int)] : List Int) 0).2) houses1 ((T__law_pick s2 ([(2 : Int), (3 : Int), (4 : Int)] : List Int) 0).1)).2))) (S := (fun (turn1 : Int) (s2 : List Int) => (S__law_pick s2 ([(2 : Int), (3 : Int), (4 : Int)] : List Int)) ∧ (S__law_drawn_lot ((T__law_pick s2 ([(2 : Int), (3 : Int), (4 : Int)] : List Int) 0).2) houses1 ((T__law_pick s2 ([(2 : Int), (3 : Int), (4 : Int)] : List Int) 0).1)))) (xs := (rg ((1 : Int) + (T__law_take box2 (5 : Int)).1))) (s0 := (T__law_take box2 (5 : Int)).2) (ji_rng1 (ja_cons (je_op2 je_c (je_callU (ja_cons (je_name rfl) (ja_cons je_c ja_nil)) (ArgsE.b rfl rfl (ArgsE.v (cI.F (5 : Int)) ArgsE.nil)) (L__law_take box2 (5 : Int) ((h hc26).2 hc30).1) (nd_of rfl)) rfl rfl (o_addI (1 : Int) (T__law_take box2 (5 : Int)).1)) ja_nil) (rds1 rfl) ((h hc26).2 hc30).2.1) rfl ((h hc26).2 hc30).2.2.1 ((h hc26).2 hc30).2.2.2.1 (fun turn1 s2 hx => ⟨_, [some (.io ((oL cI.e) s2)), some (.dt (cI.e many1)), some (.dt ((cT cI).e houses1)), some (.dt (cI.e way1)), some .un, some .un, some .un, some .un, some (.dt (cI.e turn1)), some .un], [some (.io ((oL cI.e) ((T__law_drawn_lot ((T__law_pick s2 ([(2 : Int), (3 : Int), (4 : Int)] : List Int) 0).2) houses1 ((T__law_pick s2 ([(2 : Int), (3 : Int), (4 : Int)] : List Int) 0).1)).2))), some (.dt (cI.e many1)), some (.dt ((cT cI).e houses1)), some (.dt (cI.e way1)), some .un, some .un, some .un, some .un, some (.dt (cI.e turn1)), some .un], true, (T__law_drawn_lot ((T__law_pick s2 ([(2 : Int), (3 : Int), (4 : Int)] : List Int) 0).2) houses1 ((T__law_pick s2 ([(2 : Int), (3 : Int), (4 : Int)] : List Int) 0).1)).1, (jg_set rfl), jt_yes, fun hc => (je_callU (ja_cons (je_name rfl) (ja_cons (je_fzF (je_ownB (je_name rfl) rfl ((cT cI).F houses1)) ((cT cI).F houses1)) (ja_cons (je_callU (ja_cons (je_name rfl) (ja_cons (je_fzN (je_ownV (je_lst (ja_cons je_c (ja_cons je_c (ja_cons je_c ja_nil))) rfl (sl_le rfl))) rfl (frz_oL cI ([(2 : Int), (3 : Int), (4 : Int)] : List Int))) ja_nil)) (ArgsE.b rfl rfl (ArgsE.v ((cL cI).F ([(2 : Int), (3 : Int), (4 : Int)] : List Int)) ArgsE.nil)) (L__law_pick cI 0 s2 ([(2 : Int), (3 : Int), (4 : Int)] : List Int) seqL ((cL cI).F ([(2 : Int), (3 : Int), (4 : Int)] : List Int)) hx.1) (nd_of rfl)) ja_nil))) (ArgsE.b rfl rfl (ArgsE.v ((cT cI).F houses1) (ArgsE.v (cI.F ((T__law_pick s2 ([(2 : Int), (3 : Int), (4 : Int)] : List Int) 0).1)) ArgsE.nil))) (L__law_drawn_lot ((T__law_pick s2 ([(2 : Int), (3 : Int), (4 : Int)] : List Int) 0).2) houses1 ((T__law_pick s2 ([(2 : Int), (3 : Int), (4 : Int)] : List Int) 0).1) hx.2) (nd_of rfl)), (fun _ => ⟨rfl, rfl⟩), (fun z => nomatch z)⟩) (fun s2 => (back_any back_nil rfl))) (jg_set rfl) (js_frz rfl (frz_oL (cT cI) ((lcX (fun (turn1 : Int) (s2 : List Int) => (some ((T__law_drawn_lot ((T__law_pick s2 ([(2 : Int), (3 : Int), (4 : Int)] : List Int) 0).2) houses1 ((T__law_pick s2 ([(2 : Int), (3 : Int), (4 : Int)] : List Int) 0).1)).1), (T__law_drawn_lot ((T__law_pick s2 ([(2 : Int), (3 : Int), (4 : Int)] : List Int) 0).2) houses1 ((T__law_pick s2 ([(2 : Int), (3 : Int), (4 : Int)] : List Int) 0).1)).2)) (rg ((1 : Int) + (T__law_take box2 (5 : Int)).1)) ((T__law_take box2 (5 : Int)).2)).1)) (L__law_liars_5 many1 houses1 way1 ((lcX (fun (turn1 : Int) (s2 : List Int) => (some ((T__law_drawn_lot ((T__law_pick s2 ([(2 : Int), (3 : Int), (4 : Int)] : List Int) 0).2) houses1 ((T__law_pick s2 ([(2 : Int), (3 : Int), (4 : Int)] : List Int) 0).1)).1), (T__law_drawn_lot ((T__law_pick s2 ([(2 : Int), (3 : Int), (4 : Int)] : List Int) 0).2) houses1 ((T__law_pick s2 ([(2 : Int), (3 : Int), (4 : Int)] : List Int) 0).1)).2)) (rg ((1 : Int) + (T__law_take box2 (5 : Int)).1)) ((T__law_take box2 (5 : Int)).2)).2) ((lcX (fun (turn1 : Int) (s2 : List Int) => (some ((T__law_drawn_lot ((T__law_pick s2 ([(2 : Int), (3 : Int), (4 : Int)] : List Int) 0).2) houses1 ((T__law_pick s2 ([(2 : Int), (3 : Int), (4 : Int)] : List Int) 0).1)).1), (T__law_drawn_lot ((T__law_pick s2 ([(2 : Int), (3 : Int), (4 : Int)] : List Int) 0).2) houses1 ((T__law_pick s2 ([(2 : Int), (3 : Int), (4 : Int)] : List Int) 0).1)).2)) (rg ((1 : Int) + (T__law_take box2 (5 : Int)).1)) ((T__law_take box2 (5 : Int)).2)).1) ((h hc26).2 hc30).2.2.2.2))))))))))
def T__law_liars (box1 : List Int) (many1 : Int) : List (List Int) × List Int := (T__law_liars_6 many1 ((T__law_take box1 (8 : Int)).2) (rg many1) ((T__law_take box1 (8 : Int)).1))
theorem T__law_liars_eq (box1 : List Int) (many1 : Int) : T__law_liars box1 many1 = (T__law_liars_6 many1 ((T__law_take box1 (8 : Int)).2) (rg many1) ((T__law_take box1 (8 : Int)).1)) := rfl
def S__law_liars (box1 : List Int) (many1 : Int) : Prop := (RgS 0 many1) ∧ (S__law_take box1 (8 : Int)) ∧ (S__law_liars_6 many1 ((T__law_take box1 (8 : Int)).2) (rg many1) ((T__law_take box1 (8 : Int)).1))
theorem S__law_liars_eq (box1 : List Int) (many1 : Int) : S__law_liars box1 many1 = ((RgS 0 many1) ∧ (S__law_take box1 (8 : Int)) ∧ (S__law_liars_6 many1 ((T__law_take box1 (8 : Int)).2) (rg many1) ((T__law_take box1 (8 : Int)).1))) := rfl
theorem L__law_liars (box1 : List Int) (many1 : Int) (h : S__law_liars box1 many1) : F__law_liars [((oL cI.e) box1), (cI.e many1)] = .ok ((cT (cT cI)).e ((T__law_liars box1 many1).1)) [((oL cI.e) (T__law_liars box1 many1).2), .non] := fn_of (n := 10) (show JS [some (.io ((oL cI.e) box1)), some (.dt (cI.e many1)), some .un, some .un, some .un, some .un, some .un, some .un, some .un, some .un] b__law_liars_16 (K__law_liars (T__law_liars box1 many1)) from (js_asg (je_tup (ja_cons (je_op1 (je_name rfl) rfl (o_rgT (n := many1) h.1)) (ja_cons (je_callU (ja_cons (je_name rfl) (ja_cons je_c ja_nil)) (ArgsE.b rfl rfl (ArgsE.v (cI.F (8 : Int)) ArgsE.nil)) (L__law_take box1 (8 : Int) h.2.1) (nd_of rfl)) ja_nil)) rfl (sl_le rfl)) (jg_tup (.cons (jg_set rfl) (.cons (jg_set rfl) .nil))) (L__law_liars_6 many1 ((T__law_take box1 (8 : Int)).2) (rg many1) ((T__law_take box1 (8 : Int)).1) h.2.2)))
def K__law_ends (m : (Int × Int) × List Int) : Fl → Rho → Prop := Kf [true, false] ((cP (rC cI (r1 cI))).e m.1) [((oL cI.e) m.2), .non]
def T__law_ends_1 (one1 : Int) (s1 : (List Int) × (List (Int × Int))) (box2 : List Int) (two1 : Int) : (List Int) × (List (Int × Int)) := (if (!(decide (one1 = two1))) = true then (box2, (s1.2 ++ [(one1, two1)])) else (box2, s1.2))
def S__law_ends_1 (one1 : Int) (s1 : (List Int) × (List (Int × Int))) (two1 : Int) : Prop := (((!(decide (one1 = two1)))) = true → (s1.2.length < sizeLine))
theorem L__law_ends_1 (net1 : Int × (List (Int × Int))) (one1 : Int) (s1 : (List Int) × (List (Int × Int))) (box2 : List Int) (two1 : Int) (h : S__law_ends_1 one1 s1 two1) : JS [some (.io ((oL cI.e) box2)), some (.dt ((cP (rC cI (r1 (cT (cP (rC cI (r1 cI))))))).e net1)), some (.dt ((oL (cP (rC cI (r1 cI))).e) s1.2)), some (.dt (cI.e one1)), some (.dt (cI.e two1)), some .un, some .un] b__law_ends_2 (Kn (M := (Int × Int) × List Int) (K__law_ends) (fun s1 : (List Int) × (List (Int × Int)) => [some (.io ((oL cI.e) s1.1)), some (.dt ((cP (rC cI (r1 (cT (cP (rC cI (r1 cI))))))).e net1)), some (.dt ((oL (cP (rC cI (r1 cI))).e) s1.2)), none, none, some .un, some .un]) (T__law_ends_1 one1 s1 box2 two1)) := (js_last (js_if (Kn (M := (Int × Int) × List Int) (K__law_ends) (fun s1 : (List Int) × (List (Int × Int)) => [some (.io ((oL cI.e) s1.1)), some (.dt ((cP (rC cI (r1 (cT (cP (rC cI (r1 cI))))))).e net1)), some (.dt ((oL (cP (rC cI (r1 cI))).e) s1.2)), none, none, some .un, some .un])) (jt_val (je_op2 (je_name rfl) (je_name rfl) rfl rfl (o_ne cI (kle rfl) one1 two1)) rfl) (fun hc31 => (js_drop (je_app (cP (rC cI (r1 cI))).e Sl.dt w_dt w_dt2 (xs := s1.2) (x := (one1, two1)) rfl (je_tup (ja_cons (je_fzF (je_ownB (je_name rfl) rfl (cI.F one1)) (cI.F one1)) (ja_cons (je_fzF (je_ownB (je_name rfl) rfl (cI.F two1)) (cI.F two1)) ja_nil)) rfl (sl_le rfl)) rfl (h hc31)) (js_end (kn_nx ⟨rfl, rfl, rfl, le_dt, le_dt, rfl, rfl, trivial⟩)))) (fun hc32 => (js_nx (js_end (kn_nx ⟨rfl, rfl, rfl, le_dt, le_dt, rfl, rfl, trivial⟩))))))
def T__law_ends_2 (net1 : Int × (List (Int × Int))) (one1 : Int) (s1 : (List Int) × (List (Int × Int))) : (List Int) × (List (Int × Int)) := (T__law_ends_1 one1 s1 ((T__law_take s1.1 net1.1).2) ((T__law_take s1.1 net1.1).1))
def S__law_ends_2 (net1 : Int × (List (Int × Int))) (one1 : Int) (s1 : (List Int) × (List (Int × Int))) : Prop := (S__law_take s1.1 net1.1) ∧ (S__law_ends_1 one1 s1 ((T__law_take s1.1 net1.1).1))
theorem L__law_ends_2 (net1 : Int × (List (Int × Int))) (one1 : Int) (s1 : (List Int) × (List (Int × Int))) (h : S__law_ends_2 net1 one1 s1) : JS [some (.io ((oL cI.e) s1.1)), some (.dt ((cP (rC cI (r1 (cT (cP (rC cI (r1 cI))))))).e net1)), some (.dt ((oL (cP (rC cI (r1 cI))).e) s1.2)), some (.dt (cI.e one1)), none, some .un, some .un] b__law_ends_3 (Kn (M := (Int × Int) × List Int) (K__law_ends) (fun s1 : (List Int) × (List (Int × Int)) => [some (.io ((oL cI.e) s1.1)), some (.dt ((cP (rC cI (r1 (cT (cP (rC cI (r1 cI))))))).e net1)), some (.dt ((oL (cP (rC cI (r1 cI))).e) s1.2)), none, none, some .un, some .un]) (T__law_ends_2 net1 one1 s1)) := (js_asg (je_callU (ja_cons (je_name rfl) (ja_cons (je_op2 (je_name rfl) je_c rfl rfl (o_ixR 0 rfl (cI.F net1.1))) ja_nil)) (ArgsE.b rfl rfl (ArgsE.v (cI.F net1.1) ArgsE.nil)) (L__law_take s1.1 net1.1 h.1) (nd_of rfl)) (jg_set rfl) (L__law_ends_1 net1 one1 s1 ((T__law_take s1.1 net1.1).2) ((T__law_take s1.1 net1.1).1) h.2))
def T__law_ends_3 (s1 : (List Int) × (List (Int × Int))) (far1 : List (Int × Int)) : (Int × Int) × List Int := (if (decide (s1.2 = ([] : List (Int × Int)))) = true then (((0 : Int), (1 : Int)), s1.1) else ((T__law_pick (T__law_pick (T__law_pick s1.1 (if (!(decide (far1 = ([] : List (Int × Int))))) = true then far1 else s1.2) (0, 0)).2 s1.2 (0, 0)).2 ([(T__law_pick s1.1 (if (!(decide (far1 = ([] : List (Int × Int))))) = true then far1 else s1.2) (0, 0)).1, (T__law_pick (T__law_pick s1.1 (if (!(decide (far1 = ([] : List (Int × Int))))) = true then far1 else s1.2) (0, 0)).2 s1.2 (0, 0)).1] : List (Int × Int)) (0, 0)).1, (T__law_pick (T__law_pick (T__law_pick s1.1 (if (!(decide (far1 = ([] : List (Int × Int))))) = true then far1 else s1.2) (0, 0)).2 s1.2 (0, 0)).2 ([(T__law_pick s1.1 (if (!(decide (far1 = ([] : List (Int × Int))))) = true then far1 else s1.2) (0, 0)).1, (T__law_pick (T__law_pick s1.1 (if (!(decide (far1 = ([] : List (Int × Int))))) = true then far1 else s1.2) (0, 0)).2 s1.2 (0, 0)).1] : List (Int × Int)) (0, 0)).2))
def S__law_ends_3 (s1 : (List Int) × (List (Int × Int))) (far1 : List (Int × Int)) : Prop := (((decide (s1.2 = ([] : List (Int × Int))))) = false → ((S__law_pick s1.1 (if (!(decide (far1 = ([] : List (Int × Int))))) = true then far1 else s1.2)) ∧ (S__law_pick (T__law_pick s1.1 (if (!(decide (far1 = ([] : List (Int × Int))))) = true then far1 else s1.2) (0, 0)).2 s1.2) ∧ (S__law_pick (T__law_pick (T__law_pick s1.1 (if (!(decide (far1 = ([] : List (Int × Int))))) = true then far1 else s1.2) (0, 0)).2 s1.2 (0, 0)).2 ([(T__law_pick s1.1 (if (!(decide (far1 = ([] : List (Int × Int))))) = true then far1 else s1.2) (0, 0)).1, (T__law_pick (T__law_pick s1.1 (if (!(decide (far1 = ([] : List (Int × Int))))) = true then far1 else s1.2) (0, 0)).2 s1.2 (0, 0)).1] : List (Int × Int)))))
theorem L__law_ends_3 (net1 : Int × (List (Int × Int))) (s1 : (List Int) × (List (Int × Int))) (far1 : List (Int × Int)) (h : S__law_ends_3 s1 far1) : JS [some (.io ((oL cI.e) s1.1)), some (.dt ((cP (rC cI (r1 (cT (cP (rC cI (r1 cI))))))).e net1)), some (.dt ((cL (cP (rC cI (r1 cI)))).e s1.2)), none, none, some (.dt ((cL (cP (rC cI (r1 cI)))).e far1)), none] b__law_ends_8 (K__law_ends (T__law_ends_3 s1 far1)) := (js_if (K__law_ends) (jt_val (je_op2 (je_name rfl) (je_lst ja_nil rfl (sl_le rfl)) rfl rfl (o_eqL (cP (rC cI (r1 cI))) (kle rfl) s1.2 ([] : List (Int × Int)))) rfl) (fun hc34 => (js_ret (je_tup (ja_cons je_c (ja_cons je_c ja_nil)) rfl (sl_le rfl)) (kf_rt rfl))) (fun hc35 => (js_nx (js_last (js_ret (je_callU (ja_cons (je_name rfl) (ja_cons (je_fzN (je_ownV (je_lst (ja_cons (je_callU (ja_cons (je_name rfl) (ja_cons (je_if (cL (cP (rC cI (r1 cI)))).e (a := far1) (b := s1.2) (jt_val (je_op2 (je_name rfl) (je_lst ja_nil rfl (sl_le rfl)) rfl rfl (o_neL (cP (rC cI (r1 cI))) (kle rfl) far1 ([] : List (Int × Int)))) rfl) (fun hc36 => (je_fzF (je_ownB (je_name rfl) rfl ((cL (cP (rC cI (r1 cI)))).F far1)) ((cL (cP (rC cI (r1 cI)))).F far1))) (fun hc37 => (je_fzF (je_ownB (je_name rfl) rfl ((cL (cP (rC cI (r1 cI)))).F s1.2)) ((cL (cP (rC cI (r1 cI)))).F s1.2)))) ja_nil)) (ArgsE.b rfl rfl (ArgsE.v ((cL (cP (rC cI (r1 cI)))).F (if (!(decide (far1 = ([] : List (Int × Int))))) = true then far1 else s1.2)) ArgsE.nil)) (L__law_pick (cP (rC cI (r1 cI))) (0, 0) s1.1 (if (!(decide (far1 = ([] : List (Int × Int))))) = true then far1 else s1.2) seqL ((cL (cP (rC cI (r1 cI)))).F (if (!(decide (far1 = ([] : List (Int × Int))))) = true then far1 else s1.2)) (h hc35).1) (nd_of rfl)) (ja_cons (je_callU (ja_cons (je_name rfl) (ja_cons (je_fzF (je_ownB (je_name rfl) rfl ((cL (cP (rC cI (r1 cI)))).F s1.2)) ((cL (cP (rC cI (r1 cI)))).F s1.2)) ja_nil)) (ArgsE.b rfl rfl (ArgsE.v ((cL (cP (rC cI (r1 cI)))).F s1.2) ArgsE.nil)) (L__law_pick (cP (rC cI (r1 cI))) (0, 0) (T__law_pick s1.1 (if (!(decide (far1 = ([] : List (Int × Int))))) = true then far1 else s1.2) (0, 0)).2 s1.2 seqL ((cL (cP (rC cI (r1 cI)))).F s1.2) (h hc35).2.1) (nd_of rfl)) ja_nil)) rfl (sl_le rfl))) rfl (frz_oL (cP (rC cI (r1 cI))) ([(T__law_pick s1.1 (if (!(decide (far1 = ([] : List (Int × Int))))) = true then far1 else s1.2) (0, 0)).1, (T__law_pick (T__law_pick s1.1 (if (!(decide (far1 = ([] : List (Int × Int))))) = true then far1 else s1.2) (0, 0)).2 s1.2 (0, 0)).1] : List (Int × Int)))) ja_nil)) (ArgsE.b rfl rfl (ArgsE.v ((cL (cP (rC cI (r1 cI)))).F ([(T__law_pick s1.1 (if (!(decide (far1 = ([] : List (Int × Int))))) = true then far1 else s1.2) (0, 0)).1, (T__law_pick (T__law_pick s1.1 (if (!(decide (far1 = ([] : List (Int × Int))))) = true then far1 else s1.2) (0, 0)).2 s1.2 (0, 0)).1] : List (Int × Int))) ArgsE.nil)) (L__law_pick (cP (rC cI (r1 cI))) (0, 0) (T__law_pick (T__law_pick s1.1 (if (!(decide (far1 = ([] : List (Int × Int))))) = true then far1 else s1.2) (0, 0)).2 s1.2 (0, 0)).2 ([(T__law_pick s1.1 (if (!(decide (far1 = ([] : List (Int × Int))))) = true then far1 else s1.2) (0, 0)).1, (T__law_pick (T__law_pick s1.1 (if (!(decide (far1 = ([] : List (Int × Int))))) = true then far1 else s1.2) (0, 0)).2 s1.2 (0, 0)).1] : List (Int × Int)) seqL ((cL (cP (rC cI (r1 cI)))).F ([(T__law_pick s1.1 (if (!(decide (far1 = ([] : List (Int × Int))))) = true then far1 else s1.2) (0, 0)).1, (T__law_pick (T__law_pick s1.1 (if (!(decide (far1 = ([] : List (Int × Int))))) = true then far1 else s1.2) (0, 0)).2 s1.2 (0, 0)).1] : List (Int × Int))) (h hc35).2.2) (nd_of rfl)) (kf_rt rfl))))))
def T__law_ends_4 (net1 : Int × (List (Int × Int))) (s1 : (List Int) × (List (Int × Int))) : (Int × Int) × List Int := (T__law_ends_3 s1 ((s1.2.filter fun (pair1 : Int × Int) => (!(memB pair1 net1.2))).map fun (pair1 : Int × Int) => pair1))
def S__law_ends_4 (net1 : Int × (List (Int × Int))) (s1 : (List Int) × (List (Int × Int))) : Prop := (s1.2.length ≤ sizeLine) ∧ (S__law_ends_3 s1 ((s1.2.filter fun (pair1 : Int × Int) => (!(memB pair1 net1.2))).map fun (pair1 : Int × Int) => pair1))
theorem L__law_ends_4 (net1 : Int × (List (Int × Int))) (s1 : (List Int) × (List (Int × Int))) (h : S__law_ends_4 net1 s1) : JS [some (.io ((oL cI.e) s1.1)), some (.dt ((cP (rC cI (r1 (cT (cP (rC cI (r1 cI))))))).e net1)), some (.dt ((oL (cP (rC cI (r1 cI))).e) s1.2)), none, none, some .un, some .un] b__law_ends_9 (K__law_ends (T__law_ends_4 net1 s1)) := (js_assoc (js_asg (je_lcP (cP (rC cI (r1 cI))).e (cP (rC cI (r1 cI))).e (c := fun (pair1 : Int × Int) => (!(memB pair1 net1.2))) (f := fun (pair1 : Int × Int) => pair1) (S := (fun _ => True)) (xs := s1.2) (Γx := (fun pair1 : Int × Int => [some (.io ((oL cI.e) s1.1)), some (.dt ((cP (rC cI (r1 (cT (cP (rC cI (r1 cI))))))).e net1)), some (.dt ((cL (cP (rC cI (r1 cI)))).e s1.2)), none, none, some .un, some (.dt ((cP (rC cI (r1 cI))).e pair1))])) (ji_seqL (je_fzF (je_ownZ (je_name rfl) rfl rfl (frz_oL (cP (rC cI (r1 cI))) s1.2)) ((cL (cP (rC cI (r1 cI)))).F s1.2))) rfl h.1 (fun _ _ => True.intro) (fun pair1 => (jg_set rfl)) (fun pair1 hx => (jt_val (je_op2 (je_name rfl) (je_op2 (je_name rfl) je_c rfl rfl (o_ixR 1 rfl ((cT (cP (rC cI (r1 cI)))).F net1.2))) rfl rfl (o_nin (cP (rC cI (r1 cI))) (kle rfl) (xs := net1.2) seqT pair1)) rfl)) (fun pair1 hx hc33 => (je_fzF (je_ownB (je_name rfl) rfl ((cP (rC cI (r1 cI))).F pair1)) ((cP (rC cI (r1 cI))).F pair1))) (fun _ => rfl) (back_any back_nil rfl)) (jg_set rfl) (js_frz rfl (frz_oL (cP (rC cI (r1 cI))) ((s1.2.filter fun (pair1 : Int × Int) => (!(memB pair1 net1.2))).map fun (pair1 : Int × Int) => pair1)) (L__law_ends_3 net1 s1 ((s1.2.filter fun (pair1 : Int × Int) => (!(memB pair1 net1.2))).map fun (pair1 : Int × Int) => pair1) h.2))))
def T__law_ends_5 (box1 : List Int) (net1 : Int × (List (Int × Int))) (pairs1 : List (Int × Int)) : (Int × Int) × List Int := (T__law_ends_4 net1 (forF (fun (one1 : Int) (s1 : (List Int) × (List (Int × Int))) => T__law_ends_2 net1 one1 s1) (rg net1.1) (box1, pairs1)))
def S__law_ends_5 (box1 : List Int) (net1 : Int × (List (Int × Int))) (pairs1 : List (Int × Int)) : Prop := (Sm net1.1) ∧ (forSF (fun (one1 : Int) (s1 : (List Int) × (List (Int × Int))) => S__law_ends_2 net1 one1 s1) (fun (one1 : Int) (s1 : (List Int) × (List (Int × Int))) => T__law_ends_2 net1 one1 s1) (rg net1.1) (box1, pairs1)) ∧ (S__law_ends_4 net1 (forF (fun (one1 : Int) (s1 : (List Int) × (List (Int × Int))) => T__law_ends_2 net1 one1 s1) (rg net1.1) (box1, pairs1)))
theorem L__law_ends_5 (box1 : List Int) (net1 : Int × (List (Int × Int))) (pairs1 : List (Int × Int)) (h : S__law_ends_5 box1 net1 pairs1) : JS [some (.io ((oL cI.e) box1)), some (.dt ((cP (rC cI (r1 (cT (cP (rC cI (r1 cI))))))).e net1)), some (.dt ((oL (cP (rC cI (r1 cI))).e) pairs1)), some .un, some .un, some .un, some .un] b__law_ends_10 (K__law_ends (T__law_ends_5 box1 net1 pairs1)) := (js_forF (K__law_ends) (fun s1 : (List Int) × (List (Int × Int)) => [some (.io ((oL cI.e) s1.1)), some (.dt ((cP (rC cI (r1 (cT (cP (rC cI (r1 cI))))))).e net1)), some (.dt ((oL (cP (rC cI (r1 cI))).e) s1.2)), none, none, some .un, some .un]) cI.e (b := (fun (one1 : Int) (s1 : (List Int) × (List (Int × Int))) => T__law_ends_2 net1 one1 s1)) (S := (fun (one1 : Int) (s1 : (List Int) × (List (Int × Int))) => S__law_ends_2 net1 one1 s1)) (mr := (fun (s1 : (List Int) × (List (Int × Int))) => T__law_ends_4 net1 s1)) (xs := (rg net1.1)) (s0 := (box1, pairs1)) (ji_rng1 (ja_cons (je_op2 (je_name rfl) je_c rfl rfl (o_ixR 0 rfl (cI.F net1.1))) ja_nil) (rds1 rfl) h.1) ⟨rfl, rfl, rfl, le_un, le_un, rfl, rfl, trivial⟩ h.2.1 (fun one1 s1 hb => ⟨_, (jg_set rfl), L__law_ends_2 net1 one1 s1 hb⟩) (L__law_ends_4 net1 (forF (fun (one1 : Int) (s1 : (List Int) × (List (Int × Int))) => T__law_ends_2 net1 one1 s1) (rg net1.1) (box1, pairs1)) h.2.2))
def T__law_ends (box1 : List Int) (net1 : Int × (List (Int × Int))) : (Int × Int) × List Int := (T__law_ends_5 box1 net1 ([] : List (Int × Int)))
theorem T__law_ends_eq (box1 : List Int) (net1 : Int × (List (Int × Int))) : T__law_ends box1 net1 = (T__law_ends_5 box1 net1 ([] : List (Int × Int))) := rfl
def S__law_ends (box1 : List Int) (net1 : Int × (List (Int × Int))) : Prop := (S__law_ends_5 box1 net1 ([] : List (Int × Int)))
theorem S__law_ends_eq (box1 : List Int) (net1 : Int × (List (Int × Int))) : S__law_ends box1 net1 = (S__law_ends_5 box1 net1 ([] : List (Int × Int))) := rfl
theorem L__law_ends (box1 : List Int) (net1 : Int × (List (Int × Int))) (h : S__law_ends box1 net1) : F__law_ends [((oL cI.e) box1), ((cP (rC cI (r1 (cT (cP (rC cI (r1 cI))))))).e net1)] = .ok ((cP (rC cI (r1 cI))).e ((T__law_ends box1 net1).1)) [((oL cI.e) (T__law_ends box1 net1).2), .non] := fn_of (n := 7) (show JS [some (.io ((oL cI.e) box1)), some (.dt ((cP (rC cI (r1 (cT (cP (rC cI (r1 cI))))))).e net1)), some .un, some .un, some .un, some .un, some .un] b__law_ends_11 (K__law_ends (T__law_ends box1 net1)) from (js_asg (je_lst ja_nil rfl (sl_le rfl)) (jg_set rfl) (L__law_ends_5 box1 net1 ([] : List (Int × Int)) h)))
def K__law_trails (m : List (List Int)) : Fl → Rho → Prop := Kf [false, false, false] ((cT (cT cI)).e m) [.non, .non, .non]
def T__law_trails_1 (net1 : Int × (List (Int × Int))) (end1 : Int) (row2 : List Int) (s2 : List (List Int)) : List (List Int) := (if (!(decide ((row2.getLastD 0) = end1))) = true then (s2 ++ ((net1.2.filter fun (x1 : Int × Int) => ((decide (x1.1 = (row2.getLastD 0))) && (!(memB x1.2 row2)))).map fun (x1 : Int × Int) => (row2 ++ ([x1.2] : List Int)))) else s2)
def S__law_trails_1 (net1 : Int × (List (Int × Int))) (end1 : Int) (row2 : List Int) (s2 : List (List Int)) : Prop := (row2 ≠ []) ∧ (((!(decide ((row2.getLastD 0) = end1)))) = true → ((net1.2.length ≤ sizeLine) ∧ (∀ x1 ∈ net1.2, (row2 ≠ []) ∧ ((((decide (x1.1 = (row2.getLastD 0))) && (!(memB x1.2 row2)))) = true → (row2.length + ([x1.2] : List Int).length ≤ sizeLine))) ∧ (s2.length + ((net1.2.filter fun (x1 : Int × Int) => ((decide (x1.1 = (row2.getLastD 0))) && (!(memB x1.2 row2)))).map fun (x1 : Int × Int) => (row2 ++ ([x1.2] : List Int))).length ≤ sizeLine)))
theorem L__law_trails_1 (net1 : Int × (List (Int × Int))) (start1 : Int) (end1 : Int) (turn1 : Int) (s1 : (List (List Int)) × (List (List Int))) (found2 : List (List Int)) (row2 : List Int) (s2 : List (List Int)) (h : S__law_trails_1 net1 end1 row2 s2) : JS [some (.dt ((cP (rC cI (r1 (cT (cP (rC cI (r1 cI))))))).e net1)), some (.dt (cI.e start1)), some (.dt (cI.e end1)), some (.dt ((cL (cT cI)).e s1.1)), some (.dt ((cL (cT cI)).e found2)), some (.dt (cI.e turn1)), some (.dt ((oL (cT cI).e) s2)), some (.dt ((cT cI).e row2)), none, none] b__law_trails_6 (Kn (M := (List (List Int)) × (List (List Int))) (Kn (M := List (List Int)) (K__law_trails) (fun s1 : (List (List Int)) × (List (List Int)) => [some (.dt ((cP (rC cI (r1 (cT (cP (rC cI (r1 cI))))))).e net1)), some (.dt (cI.e start1)), some (.dt (cI.e end1)), some (.dt ((cL (cT cI)).e s1.1)), some (.dt ((cL (cT cI)).e s1.2)), none, none, none, none, none])) (fun s2 : List (List Int) => [some (.dt ((cP (rC cI (r1 (cT (cP (rC cI (r1 cI))))))).e net1)), some (.dt (cI.e start1)), some (.dt (cI.e end1)), some (.dt ((cL (cT cI)).e s1.1)), some (.dt ((cL (cT cI)).e found2)), some (.dt (cI.e turn1)), some (.dt ((oL (cT cI).e) s2)), none, none, none]) (T__law_trails_1 net1 end1 row2 s2)) := (js_last (js_if (Kn (M := (List (List Int)) × (List (List Int))) (Kn (M := List (List Int)) (K__law_trails) (fun s1 : (List (List Int)) × (List (List Int)) => [some (.dt ((cP (rC cI (r1 (cT (cP (rC cI (r1 cI))))))).e net1)), some (.dt (cI.e start1)), some (.dt (cI.e end1)), some (.dt ((cL (cT cI)).e s1.1)), some (.dt ((cL (cT cI)).e s1.2)), none, none, none, none, none])) (fun s2 : List (List Int) => [some (.dt ((cP (rC cI (r1 (cT (cP (rC cI (r1 cI))))))).e net1)), some (.dt (cI.e start1)), some (.dt (cI.e end1)), some (.dt ((cL (cT cI)).e s1.1)), some (.dt ((cL (cT cI)).e found2)), some (.dt (cI.e turn1)), some (.dt ((oL (cT cI).e) s2)), none, none, none])) (jt_val (je_op2 (je_op2 (je_name rfl) (je_op1 je_c rfl (o_neg (1 : Int))) rfl rfl (o_ixL cI (xs := row2) seqT 0 h.1)) (je_name rfl) rfl rfl (o_ne cI (kle rfl) (row2.getLastD 0) end1)) rfl) (fun hc39 => (js_drop (je_ext (cT cI).e Sl.dt w_dt w_dt2 (xs := s2) (ys := ((net1.2.filter fun (x1 : Int × Int) => ((decide (x1.1 = (row2.getLastD 0))) && (!(memB x1.2 row2)))).map fun (x1 : Int × Int) => (row2 ++ ([x1.2] : List Int)))) rfl (je_lcP (cP (rC cI (r1 cI))).e (cT cI).e (c := fun (x1 : Int × Int) => ((decide (x1.1 = (row2.getLastD 0))) && (!(memB x1.2 row2)))) (f := fun (x1 : Int × Int) => (row2 ++ ([x1.2] : List Int))) (S := (fun x1 : Int × Int => (row2 ≠ []) ∧ ((((decide (x1.1 = (row2.getLastD 0))) && (!(memB x1.2 row2)))) = true → (row2.length + ([x1.2] : List Int).length ≤ sizeLine)))) (xs := net1.2) (Γx := (fun x1 : Int × Int => [some (.dt ((cP (rC cI (r1 (cT (cP (rC cI (r1 cI))))))).e net1)), some (.dt (cI.e start1)), some (.dt (cI.e end1)), some (.dt ((cL (cT cI)).e s1.1)), some (.dt ((cL (cT cI)).e found2)), some (.dt (cI.e turn1)), some (.dt ((oL (cT cI).e) s2)), some (.dt ((cT cI).e row2)), some (.dt (cI.e x1.1)), some (.dt (cI.e x1.2))])) (ji_seqT (je_fzF (je_ownV (je_op2 (je_name rfl) je_c rfl rfl (o_ixR 1 rfl ((cT (cP (rC cI (r1 cI)))).F net1.2)))) ((cT (cP (rC cI (r1 cI)))).F net1.2))) rfl (h.2 hc39).1 (h.2 hc39).2.1 (fun x1 => (jg_tup (.cons (jg_set rfl) (.cons (jg_set rfl) .nil)))) (fun x1 hx => (jt_and (jt_val (je_op2 (je_name rfl) (je_op2 (je_name rfl) (je_op1 je_c rfl (o_neg (1 : Int))) rfl rfl (o_ixL cI (xs := row2) seqT 0 hx.1)) rfl rfl (o_eq cI (kle rfl) x1.1 (row2.getLastD 0))) rfl) (fun hc40 => (jt_val (je_op2 (je_name rfl) (je_name rfl) rfl rfl (o_nin cI (kle rfl) (xs := row2) seqT x1.2)) rfl)))) (fun x1 hx hc41 => (je_op2 (je_name rfl) (je_tup (ja_cons (je_fzF (je_ownB (je_name rfl) rfl (cI.F x1.2)) (cI.F x1.2)) ja_nil) rfl (sl_le rfl)) rfl rfl (o_addT cI (xs := row2) (ys := ([x1.2] : List Int)) (hx.2 hc41)))) (fun _ => rfl) (back_any (back_any back_nil rfl) rfl)) rfl seqL ((cT cI).FL ((net1.2.filter fun (x1 : Int × Int) => ((decide (x1.1 = (row2.getLastD 0))) && (!(memB x1.2 row2)))).map fun (x1 : Int × Int) => (row2 ++ ([x1.2] : List Int)))) rfl (h.2 hc39).2.2) (js_end (kn_nx ⟨rfl, rfl, rfl, rfl, rfl, rfl, rfl, le_dt, trivial, trivial, trivial⟩)))) (fun hc42 => (js_nx (js_end (kn_nx ⟨rfl, rfl, rfl, rfl, rfl, rfl, rfl, le_dt, trivial, trivial, trivial⟩))))))
def T__law_trails_2 (found2 : List (List Int)) (s2 : List (List Int)) : (List (List Int)) × (List (List Int)) := (s2, found2)
theorem L__law_trails_2 (net1 : Int × (List (Int × Int))) (start1 : Int) (end1 : Int) (turn1 : Int) (s1 : (List (List Int)) × (List (List Int))) (found2 : List (List Int)) (s2 : List (List Int)) : JS [some (.dt ((cP (rC cI (r1 (cT (cP (rC cI (r1 cI))))))).e net1)), some (.dt (cI.e start1)), some (.dt (cI.e end1)), some (.dt ((cL (cT cI)).e s1.1)), some (.dt ((cL (cT cI)).e found2)), some (.dt (cI.e turn1)), some (.dt ((oL (cT cI).e) s2)), none, none, none] b__law_trails_7 (Kn (M := List (List Int)) (K__law_trails) (fun s1 : (List (List Int)) × (List (List Int)) => [some (.dt ((cP (rC cI (r1 (cT (cP (rC cI (r1 cI))))))).e net1)), some (.dt (cI.e start1)), some (.dt (cI.e end1)), some (.dt ((cL (cT cI)).e s1.1)), some (.dt ((cL (cT cI)).e s1.2)), none, none, none, none, none]) (T__law_trails_2 found2 s2)) := (js_last (js_asg (je_fzF (je_ownZ (je_name rfl) rfl rfl (frz_oL (cT cI) s2)) ((cL (cT cI)).F s2)) (jg_set rfl) (js_end (kn_nx ⟨rfl, rfl, rfl, rfl, rfl, le_dt, le_dt, trivial, trivial, trivial, trivial⟩))))
def T__law_trails_3 (net1 : Int × (List (Int × Int))) (end1 : Int) (s1 : (List (List Int)) × (List (List Int))) (found2 : List (List Int)) (longer1 : List (List Int)) : (List (List Int)) × (List (List Int)) := (T__law_trails_2 found2 (forF (fun (row2 : List Int) (s2 : List (List Int)) => T__law_trails_1 net1 end1 row2 s2) s1.1 longer1))
def S__law_trails_3 (net1 : Int × (List (Int × Int))) (end1 : Int) (s1 : (List (List Int)) × (List (List Int))) (longer1 : List (List Int)) : Prop := (forSF (fun (row2 : List Int) (s2 : List (List Int)) => S__law_trails_1 net1 end1 row2 s2) (fun (row2 : List Int) (s2 : List (List Int)) => T__law_trails_1 net1 end1 row2 s2) s1.1 longer1)
theorem L__law_trails_3 (net1 : Int × (List (Int × Int))) (start1 : Int) (end1 : Int) (turn1 : Int) (s1 : (List (List Int)) × (List (List Int))) (found2 : List (List Int)) (longer1 : List (List Int)) (h : S__law_trails_3 net1 end1 s1 longer1) : JS [some (.dt ((cP (rC cI (r1 (cT (cP (rC cI (r1 cI))))))).e net1)), some (.dt (cI.e start1)), some (.dt (cI.e end1)), some (.dt ((cL (cT cI)).e s1.1)), some (.dt ((cL (cT cI)).e found2)), some (.dt (cI.e turn1)), some (.dt ((oL (cT cI).e) longer1)), none, none, none] b__law_trails_8 (Kn (M := List (List Int)) (K__law_trails) (fun s1 : (List (List Int)) × (List (List Int)) => [some (.dt ((cP (rC cI (r1 (cT (cP (rC cI (r1 cI))))))).e net1)), some (.dt (cI.e start1)), some (.dt (cI.e end1)), some (.dt ((cL (cT cI)).e s1.1)), some (.dt ((cL (cT cI)).e s1.2)), none, none, none, none, none]) (T__law_trails_3 net1 end1 s1 found2 longer1)) := (js_forF (Kn (M := List (List Int)) (K__law_trails) (fun s1 : (List (List Int)) × (List (List Int)) => [some (.dt ((cP (rC cI (r1 (cT (cP (rC cI (r1 cI))))))).e net1)), some (.dt (cI.e start1)), some (.dt (cI.e end1)), some (.dt ((cL (cT cI)).e s1.1)), some (.dt ((cL (cT cI)).e s1.2)), none, none, none, none, none])) (fun s2 : List (List Int) => [some (.dt ((cP (rC cI (r1 (cT (cP (rC cI (r1 cI))))))).e net1)), some (.dt (cI.e start1)), some (.dt (cI.e end1)), some (.dt ((cL (cT cI)).e s1.1)), some (.dt ((cL (cT cI)).e found2)), some (.dt (cI.e turn1)), some (.dt ((oL (cT cI).e) s2)), none, none, none]) (cT cI).e (b := (fun (row2 : List Int) (s2 : List (List Int)) => T__law_trails_1 net1 end1 row2 s2)) (S := (fun (row2 : List Int) (s2 : List (List Int)) => S__law_trails_1 net1 end1 row2 s2)) (mr := (fun (s2 : List (List Int)) => T__law_trails_2 found2 s2)) (xs := s1.1) (s0 := longer1) (ji_seqL (je_fzF (je_ownB (je_name rfl) rfl ((cL (cT cI)).F s1.1)) ((cL (cT cI)).F s1.1))) ⟨rfl, rfl, rfl, rfl, rfl, rfl, rfl, trivial, trivial, trivial, trivial⟩ h (fun row2 s2 hb => ⟨_, (jg_set rfl), L__law_trails_1 net1 start1 end1 turn1 s1 found2 row2 s2 hb⟩) (L__law_trails_2 net1 start1 end1 turn1 s1 found2 (forF (fun (row2 : List Int) (s2 : List (List Int)) => T__law_trails_1 net1 end1 row2 s2) s1.1 longer1)))
def T__law_trails_4 (net1 : Int × (List (Int × Int))) (end1 : Int) (s1 : (List (List Int)) × (List (List Int))) (found2 : List (List Int)) : (List (List Int)) × (List (List Int)) := (T__law_trails_3 net1 end1 s1 found2 ([] : List (List Int)))
def S__law_trails_4 (net1 : Int × (List (Int × Int))) (end1 : Int) (s1 : (List (List Int)) × (List (List Int))) : Prop := (S__law_trails_3 net1 end1 s1 ([] : List (List Int)))
theorem L__law_trails_4 (net1 : Int × (List (Int × Int))) (start1 : Int) (end1 : Int) (turn1 : Int) (s1 : (List (List Int)) × (List (List Int))) (found2 : List (List Int)) (h : S__law_trails_4 net1 end1 s1) : JS [some (.dt ((cP (rC cI (r1 (cT (cP (rC cI (r1 cI))))))).e net1)), some (.dt (cI.e start1)), some (.dt (cI.e end1)), some (.dt ((cL (cT cI)).e s1.1)), some (.dt ((cL (cT cI)).e found2)), some (.dt (cI.e turn1)), none, none, none, none] b__law_trails_9 (Kn (M := List (List Int)) (K__law_trails) (fun s1 : (List (List Int)) × (List (List Int)) => [some (.dt ((cP (rC cI (r1 (cT (cP (rC cI (r1 cI))))))).e net1)), some (.dt (cI.e start1)), some (.dt (cI.e end1)), some (.dt ((cL (cT cI)).e s1.1)), some (.dt ((cL (cT cI)).e s1.2)), none, none, none, none, none]) (T__law_trails_4 net1 end1 s1 found2)) := (js_asg (je_lst ja_nil rfl (sl_le rfl)) (jg_set rfl) (L__law_trails_3 net1 start1 end1 turn1 s1 found2 ([] : List (List Int)) h))
def T__law_trails_5 (net1 : Int × (List (Int × Int))) (end1 : Int) (s1 : (List (List Int)) × (List (List Int))) : (List (List Int)) × (List (List Int)) := (T__law_trails_4 net1 end1 s1 (s1.2 ++ ((s1.1.filter fun (row1 : List Int) => (decide ((row1.getLastD 0) = end1))).map fun (row1 : List Int) => row1)))
def S__law_trails_5 (net1 : Int × (List (Int × Int))) (end1 : Int) (s1 : (List (List Int)) × (List (List Int))) : Prop := (s1.1.length ≤ sizeLine) ∧ (∀ row1 ∈ s1.1, (row1 ≠ [])) ∧ (s1.2.length + ((s1.1.filter fun (row1 : List Int) => (decide ((row1.getLastD 0) = end1))).map fun (row1 : List Int) => row1).length ≤ sizeLine) ∧ (S__law_trails_4 net1 end1 s1)
theorem L__law_trails_5 (net1 : Int × (List (Int × Int))) (start1 : Int) (end1 : Int) (turn1 : Int) (s1 : (List (List Int)) × (List (List Int))) (h : S__law_trails_5 net1 end1 s1) : JS [some (.dt ((cP (rC cI (r1 (cT (cP (rC cI (r1 cI))))))).e net1)), some (.dt (cI.e start1)), some (.dt (cI.e end1)), some (.dt ((cL (cT cI)).e s1.1)), some (.dt ((cL (cT cI)).e s1.2)), some (.dt (cI.e turn1)), none, none, none, none] b__law_trails_10 (Kn (M := List (List Int)) (K__law_trails) (fun s1 : (List (List Int)) × (List (List Int)) => [some (.dt ((cP (rC cI (r1 (cT (cP (rC cI (r1 cI))))))).e net1)), some (.dt (cI.e start1)), some (.dt (cI.e end1)), some (.dt ((cL (cT cI)).e s1.1)), some (.dt ((cL (cT cI)).e s1.2)), none, none, none, none, none]) (T__law_trails_5 net1 end1 s1)) := (js_asg (je_fzN (je_ownV (je_op2 (je_name rfl) (je_lcP (cT cI).e (cT cI).e (c := fun (row1 : List Int) => (decide ((row1.getLastD 0) = end1))) (f := fun (row1 : List Int) => row1) (S := (fun row1 : List Int => (row1 ≠ []))) (xs := s1.1) (Γx := (fun row1 : List Int => [some (.dt ((cP (rC cI (r1 (cT (cP (rC cI (r1 cI))))))).e net1)), some (.dt (cI.e start1)), some (.dt (cI.e end1)), some (.dt ((cL (cT cI)).e s1.1)), some (.dt ((cL (cT cI)).e s1.2)), some (.dt (cI.e turn1)), none, some (.dt ((cT cI).e row1)), none, none])) (ji_seqL (je_fzF (je_ownB (je_name rfl) rfl ((cL (cT cI)).F s1.1)) ((cL (cT cI)).F s1.1))) rfl h.1 h.2.1 (fun row1 => (jg_set rfl)) (fun row1 hx => (jt_val (je_op2 (je_op2 (je_name rfl) (je_op1 je_c rfl (o_neg (1 : Int))) rfl rfl (o_ixL cI (xs := row1) seqT 0 hx)) (je_name rfl) rfl rfl (o_eq cI (kle rfl) (row1.getLastD 0) end1)) rfl)) (fun row1 hx hc38 => (je_fzF (je_ownB (je_name rfl) rfl ((cT cI).F row1)) ((cT cI).F row1))) (fun _ => rfl) (back_any back_nil rfl)) rfl rfl (o_addL (cT cI) (xs := s1.2) (ys := ((s1.1.filter fun (row1 : List Int) => (decide ((row1.getLastD 0) = end1))).map fun (row1 : List Int) => row1)) h.2.2.1))) rfl (frz_oL (cT cI) (s1.2 ++ ((s1.1.filter fun (row1 : List Int) => (decide ((row1.getLastD 0) = end1))).map fun (row1 : List Int) => row1)))) (jg_set rfl) (L__law_trails_4 net1 start1 end1 turn1 s1 (s1.2 ++ ((s1.1.filter fun (row1 : List Int) => (decide ((row1.getLastD 0) = end1))).map fun (row1 : List Int) => row1)) h.2.2.2))
def T__law_trails_6 (s1 : (List (List Int)) × (List (List Int))) : List (List Int) := (srt (cT cI) s1.2)
def S__law_trails_6 (s1 : (List (List Int)) × (List (List Int))) : Prop := (s1.2.length ≤ sizeLine)
theorem L__law_trails_6 (net1 : Int × (List (Int × Int))) (start1 : Int) (end1 : Int) (s1 : (List (List Int)) × (List (List Int))) (h : S__law_trails_6 s1) : JS [some (.dt ((cP (rC cI (r1 (cT (cP (rC cI (r1 cI))))))).e net1)), some (.dt (cI.e start1)), some (.dt (cI.e end1)), some (.dt ((cL (cT cI)).e s1.1)), some (.dt ((cL (cT cI)).e s1.2)), none, none, none, none, none] b__law_trails_11 (K__law_trails (T__law_trails_6 s1)) := (js_last (js_ret (je_call (ja_cons (je_call (ja_cons (je_name rfl) ja_nil) (rds1 rfl) (o_srt (so_T so_I) (kle rfl) (xs := s1.2) h)) ja_nil) (rds1 rfl) (o_tuple (cT cI) (xs := (srt (cT cI) s1.2)) seqL)) (kf_rt rfl)))
def T__law_trails_7 (net1 : Int × (List (Int × Int))) (end1 : Int) (rows1 : List (List Int)) (found1 : List (List Int)) : List (List Int) := (T__law_trails_6 (forF (fun (turn1 : Int) (s1 : (List (List Int)) × (List (List Int))) => T__law_trails_5 net1 end1 s1) (rg net1.1) (rows1, found1)))
def S__law_trails_7 (net1 : Int × (List (Int × Int))) (end1 : Int) (rows1 : List (List Int)) (found1 : List (List Int)) : Prop := (Sm net1.1) ∧ (forSF (fun (turn1 : Int) (s1 : (List (List Int)) × (List (List Int))) => S__law_trails_5 net1 end1 s1) (fun (turn1 : Int) (s1 : (List (List Int)) × (List (List Int))) => T__law_trails_5 net1 end1 s1) (rg net1.1) (rows1, found1)) ∧ (S__law_trails_6 (forF (fun (turn1 : Int) (s1 : (List (List Int)) × (List (List Int))) => T__law_trails_5 net1 end1 s1) (rg net1.1) (rows1, found1)))
theorem L__law_trails_7 (net1 : Int × (List (Int × Int))) (start1 : Int) (end1 : Int) (rows1 : List (List Int)) (found1 : List (List Int)) (h : S__law_trails_7 net1 end1 rows1 found1) : JS [some (.dt ((cP (rC cI (r1 (cT (cP (rC cI (r1 cI))))))).e net1)), some (.dt (cI.e start1)), some (.dt (cI.e end1)), some (.dt ((cL (cT cI)).e rows1)), some (.dt ((cL (cT cI)).e found1)), some .un, some .un, some .un, some .un, some .un] b__law_trails_12 (K__law_trails (T__law_trails_7 net1 end1 rows1 found1)) := (js_forF (K__law_trails) (fun s1 : (List (List Int)) × (List (List Int)) => [some (.dt ((cP (rC cI (r1 (cT (cP (rC cI (r1 cI))))))).e net1)), some (.dt (cI.e start1)), some (.dt (cI.e end1)), some (.dt ((cL (cT cI)).e s1.1)), some (.dt ((cL (cT cI)).e s1.2)), none, none, none, none, none]) cI.e (b := (fun (turn1 : Int) (s1 : (List (List Int)) × (List (List Int))) => T__law_trails_5 net1 end1 s1)) (S := (fun (turn1 : Int) (s1 : (List (List Int)) × (List (List Int))) => S__law_trails_5 net1 end1 s1)) (mr := (fun (s1 : (List (List Int)) × (List (List Int))) => T__law_trails_6 s1)) (xs := (rg net1.1)) (s0 := (rows1, found1)) (ji_rng1 (ja_cons (je_op2 (je_name rfl) je_c rfl rfl (o_ixR 0 rfl (cI.F net1.1))) ja_nil) (rds1 rfl) h.1) ⟨rfl, rfl, rfl, rfl, rfl, le_un, le_un, le_un, le_un, le_un, trivial⟩ h.2.1 (fun turn1 s1 hb => ⟨_, (jg_set rfl), L__law_trails_5 net1 start1 end1 turn1 s1 hb⟩) (L__law_trails_6 net1 start1 end1 (forF (fun (turn1 : Int) (s1 : (List (List Int)) × (List (List Int))) => T__law_trails_5 net1 end1 s1) (rg net1.1) (rows1, found1)) h.2.2))
def T__law_trails (net1 : Int × (List (Int × Int))) (start1 : Int) (end1 : Int) : List (List Int) := (T__law_trails_7 net1 end1 ([([start1] : List Int)] : List (List Int)) ([] : List (List Int)))
theorem T__law_trails_eq (net1 : Int × (List (Int × Int))) (start1 : Int) (end1 : Int) : T__law_trails net1 start1 end1 = (T__law_trails_7 net1 end1 ([([start1] : List Int)] : List (List Int)) ([] : List (List Int))) := rfl
def S__law_trails (net1 : Int × (List (Int × Int))) (start1 : Int) (end1 : Int) : Prop := (S__law_trails_7 net1 end1 ([([start1] : List Int)] : List (List Int)) ([] : List (List Int)))
theorem S__law_trails_eq (net1 : Int × (List (Int × Int))) (start1 : Int) (end1 : Int) : S__law_trails net1 start1 end1 = (S__law_trails_7 net1 end1 ([([start1] : List Int)] : List (List Int)) ([] : List (List Int))) := rfl
theorem L__law_trails (net1 : Int × (List (Int × Int))) (start1 : Int) (end1 : Int) (h : S__law_trails net1 start1 end1) : F__law_trails [((cP (rC cI (r1 (cT (cP (rC cI (r1 cI))))))).e net1), (cI.e start1), (cI.e end1)] = .ok ((cT (cT cI)).e (T__law_trails net1 start1 end1)) [.non, .non, .non] := fn_of (n := 10) (show JS [some (.dt ((cP (rC cI (r1 (cT (cP (rC cI (r1 cI))))))).e net1)), some (.dt (cI.e start1)), some (.dt (cI.e end1)), some .un, some .un, some .un, some .un, some .un, some .un, some .un] b__law_trails_13 (K__law_trails (T__law_trails net1 start1 end1)) from (js_par (ja_cons (je_fzN (je_ownV (je_lst (ja_cons (je_tup (ja_cons (je_fzF (je_ownB (je_name rfl) rfl (cI.F start1)) (cI.F start1)) ja_nil) rfl (sl_le rfl)) ja_nil) rfl (sl_le rfl))) rfl (frz_oL (cT cI) ([([start1] : List Int)] : List (List Int)))) (ja_cons (je_fzN (je_ownV (je_lst ja_nil rfl (sl_le rfl))) rfl (frz_oL (cT cI) ([] : List (List Int)))) ja_nil)) rfl (jg_set rfl) (jg_set rfl) (L__law_trails_7 net1 start1 end1 ([([start1] : List Int)] : List (List Int)) ([] : List (List Int)) h)))
def K__law_short (m : List (List Int)) : Fl → Rho → Prop := Kf [false, false, false, false] ((cT (cT cI)).e m) [.non, .non, .non, .non]
def T__law_short (net1 : Int × (List (Int × Int))) (start1 : Int) (end1 : Int) (most1 : Int) : List (List Int) := (((T__law_trails net1 start1 end1).filter fun (row1 : List Int) => (decide ((row1.length : Int) ≤ (most1 + (1 : Int))))).map fun (row1 : List Int) => row1)
theorem T__law_short_eq (net1 : Int × (List (Int × Int))) (start1 : Int) (end1 : Int) (most1 : Int) : T__law_short net1 start1 end1 most1 = (((T__law_trails net1 start1 end1).filter fun (row1 : List Int) => (decide ((row1.length : Int) ≤ (most1 + (1 : Int))))).map fun (row1 : List Int) => row1) := rfl
def S__law_short (net1 : Int × (List (Int × Int))) (start1 : Int) (end1 : Int) (most1 : Int) : Prop := (S__law_trails net1 start1 end1) ∧ ((T__law_trails net1 start1 end1).length ≤ sizeLine)
theorem S__law_short_eq (net1 : Int × (List (Int × Int))) (start1 : Int) (end1 : Int) (most1 : Int) : S__law_short net1 start1 end1 most1 = ((S__law_trails net1 start1 end1) ∧ ((T__law_trails net1 start1 end1).length ≤ sizeLine)) := rfl
theorem L__law_short (net1 : Int × (List (Int × Int))) (start1 : Int) (end1 : Int) (most1 : Int) (h : S__law_short net1 start1 end1 most1) : F__law_short [((cP (rC cI (r1 (cT (cP (rC cI (r1 cI))))))).e net1), (cI.e start1), (cI.e end1), (cI.e most1)] = .ok ((cT (cT cI)).e (T__law_short net1 start1 end1 most1)) [.non, .non, .non, .non] := fn_of (n := 5) (show JS [some (.dt ((cP (rC cI (r1 (cT (cP (rC cI (r1 cI))))))).e net1)), some (.dt (cI.e start1)), some (.dt (cI.e end1)), some (.dt (cI.e most1)), some .un] b__law_short_3 (K__law_short (T__law_short net1 start1 end1 most1)) from (js_last (js_ret (je_call (ja_cons (je_lcP (cT cI).e (cT cI).e (c := fun (row1 : List Int) => (decide ((row1.length : Int) ≤ (most1 + (1 : Int))))) (f := fun (row1 : List Int) => row1) (S := (fun _ => True)) (xs := (T__law_trails net1 start1 end1)) (Γx := (fun row1 : List Int => [some (.dt ((cP (rC cI (r1 (cT (cP (rC cI (r1 cI))))))).e net1)), some (.dt (cI.e start1)), some (.dt (cI.e end1)), some (.dt (cI.e most1)), some (.dt ((cT cI).e row1))])) (ji_seqT (je_fzF (je_ownV (je_callP (ja_cons (je_fzF (je_ownB (je_name rfl) rfl ((cP (rC cI (r1 (cT (cP (rC cI (r1 cI))))))).F net1)) ((cP (rC cI (r1 (cT (cP (rC cI (r1 cI))))))).F net1)) (ja_cons (je_fzF (je_ownB (je_name rfl) rfl (cI.F start1)) (cI.F start1)) (ja_cons (je_fzF (je_ownB (je_name rfl) rfl (cI.F end1)) (cI.F end1)) ja_nil))) (ArgsE.v ((cP (rC cI (r1 (cT (cP (rC cI (r1 cI))))))).F net1) (ArgsE.v (cI.F start1) (ArgsE.v (cI.F end1) ArgsE.nil))) (L__law_trails net1 start1 end1 h.1) rfl)) ((cT (cT cI)).F (T__law_trails net1 start1 end1)))) rfl h.2 (fun _ _ => True.intro) (fun row1 => (jg_set rfl)) (fun row1 hx => (jt_val (je_op2 (je_call (ja_cons (je_name rfl) ja_nil) (rds1 rfl) (o_len cI.e (xs := row1) seqT)) (je_op2 (je_name rfl) je_c rfl rfl (o_addI most1 (1 : Int))) rfl rfl (o_le (row1.length : Int) (most1 + (1 : Int)))) rfl)) (fun row1 hx hc43 => (je_fzF (je_ownB (je_name rfl) rfl ((cT cI).F row1)) ((cT cI).F row1))) (fun _ => rfl) (back_any back_nil rfl)) ja_nil) (rds1 rfl) (o_tuple (cT cI) (xs := (((T__law_trails net1 start1 end1).filter fun (row1 : List Int) => (decide ((row1.length : Int) ≤ (most1 + (1 : Int))))).map fun (row1 : List Int) => row1)) seqL)) (kf_rt rfl))))
def K__law_less (m : List Int) : Fl → Rho → Prop := Kf [false, false] ((cT cI).e m) [.non, .non]
def T__law_less (lot1 : List Int) (others1 : List Int) : List Int := ((lot1.filter fun (house1 : Int) => (!(memB house1 others1))).map fun (house1 : Int) => house1)
theorem T__law_less_eq (lot1 : List Int) (others1 : List Int) : T__law_less lot1 others1 = ((lot1.filter fun (house1 : Int) => (!(memB house1 others1))).map fun (house1 : Int) => house1) := rfl
def S__law_less (lot1 : List Int) (others1 : List Int) : Prop := (lot1.length ≤ sizeLine)
theorem S__law_less_eq (lot1 : List Int) (others1 : List Int) : S__law_less lot1 others1 = (lot1.length ≤ sizeLine) := rfl
theorem L__law_less (lot1 : List Int) (others1 : List Int) (h : S__law_less lot1 others1) : F__law_less [((cT cI).e lot1), ((cT cI).e others1)] = .ok ((cT cI).e (T__law_less lot1 others1)) [.non, .non] := fn_of (n := 3) (show JS [some (.dt ((cT cI).e lot1)), some (.dt ((cT cI).e others1)), some .un] b__law_less_3 (K__law_less (T__law_less lot1 others1)) from (js_last (js_ret (je_call (ja_cons (je_lcP cI.e cI.e (c := fun (house1 : Int) => (!(memB house1 others1))) (f := fun (house1 : Int) => house1) (S := (fun _ => True)) (xs := lot1) (Γx := (fun house1 : Int => [some (.dt ((cT cI).e lot1)), some (.dt ((cT cI).e others1)), some (.dt (cI.e house1))])) (ji_seqT (je_fzF (je_ownB (je_name rfl) rfl ((cT cI).F lot1)) ((cT cI).F lot1))) rfl h (fun _ _ => True.intro) (fun house1 => (jg_set rfl)) (fun house1 hx => (jt_val (je_op2 (je_name rfl) (je_name rfl) rfl rfl (o_nin cI (kle rfl) (xs := others1) seqT house1)) rfl)) (fun house1 hx hc44 => (je_fzF (je_ownB (je_name rfl) rfl (cI.F house1)) (cI.F house1))) (fun _ => rfl) (back_any back_nil rfl)) ja_nil) (rds1 rfl) (o_tuple cI (xs := ((lot1.filter fun (house1 : Int) => (!(memB house1 others1))).map fun (house1 : Int) => house1)) seqL)) (kf_rt rfl))))
def K__law_meets (m : Bool) : Fl → Rho → Prop := Kf [false, false] (cB.e m) [.non, .non]
def T__law_meets (rows1 : List (List Int)) (lots1 : List (List Int)) : Bool := (decide (((rows1.filter fun (row2 : List Int) => (decide (((row2.filter fun (house3 : Int) => (!(decide (((lots1.filter fun (lot3 : List Int) => (memB house3 lot3)).map fun (lot3 : List Int) => (1 : Int)) = ([] : List Int))))).map fun (house3 : Int) => (1 : Int)) = ([] : List Int)))).map fun (row2 : List Int) => (1 : Int)) = ([] : List Int)))
theorem T__law_meets_eq (rows1 : List (List Int)) (lots1 : List (List Int)) : T__law_meets rows1 lots1 = (decide (((rows1.filter fun (row2 : List Int) => (decide (((row2.filter fun (house3 : Int) => (!(decide (((lots1.filter fun (lot3 : List Int) => (memB house3 lot3)).map fun (lot3 : List Int) => (1 : Int)) = ([] : List Int))))).map fun (house3 : Int) => (1 : Int)) = ([] : List Int)))).map fun (row2 : List Int) => (1 : Int)) = ([] : List Int))) := rfl
def S__law_meets (rows1 : List (List Int)) (lots1 : List (List Int)) : Prop := (rows1.length ≤ sizeLine) ∧ (∀ row2 ∈ rows1, (row2.length ≤ sizeLine) ∧ (∀ house3 ∈ row2, (lots1.length ≤ sizeLine)))
theorem S__law_meets_eq (rows1 : List (List Int)) (lots1 : List (List Int)) : S__law_meets rows1 lots1 = ((rows1.length ≤ sizeLine) ∧ (∀ row2 ∈ rows1, (row2.length ≤ sizeLine) ∧ (∀ house3 ∈ row2, (lots1.length ≤ sizeLine)))) := rfl
theorem L__law_meets (rows1 : List (List Int)) (lots1 : List (List Int)) (h : S__law_meets rows1 lots1) : F__law_meets [((cT (cT cI)).e rows1), ((cT (cT cI)).e lots1)] = .ok (cB.e (T__law_meets rows1 lots1)) [.non, .non] := fn_of (n := 5) (show JS [some (.dt ((cT (cT cI)).e rows1)), some (.dt ((cT (cT cI)).e lots1)), some .un, some .un, some .un] b__law_meets_7 (K__law_meets (T__law_meets rows1 lots1)) from (js_last (js_ret (je_op2 (je_lcP (cT cI).e cI.e (c := fun (row2 : List Int) => (decide (((row2.filter fun (house3 : Int) => (!(decide (((lots1.filter fun (lot3 : List Int) => (memB house3 lot3)).map fun (lot3 : List Int) => (1 : Int)) = ([] : List Int))))).map fun (house3 : Int) => (1 : Int)) = ([] : List Int)))) (f := fun (row2 : List Int) => (1 : Int)) (S := (fun row2 : List Int => (row2.length ≤ sizeLine) ∧ (∀ house3 ∈ row2, (lots1.length ≤ sizeLine)))) (xs := rows1) (Γx := (fun row2 : List Int => [some (.dt ((cT (cT cI)).e rows1)), some (.dt ((cT (cT cI)).e lots1)), some (.dt ((cT cI).e row2)), none, none])) (ji_le (Γ2 := [some (.dt ((cT (cT cI)).e rows1)), some (.dt ((cT (cT cI)).e lots1)), some .un, none, none]) (ji_seqT (je_fzF (je_ownB (je_name rfl) rfl ((cT (cT cI)).F rows1)) ((cT (cT cI)).F rows1))) ⟨rfl, rfl, rfl, le_un, le_un, trivial⟩) rfl h.1 h.2 (fun row2 => (jg_set rfl)) (fun row2 hx => (jt_val (je_op2 (je_lcP cI.e cI.e (c := fun (house3 : Int) => (!(decide (((lots1.filter fun (lot3 : List Int) => (memB house3 lot3)).map fun (lot3 : List Int) => (1 : Int)) = ([] : List Int))))) (f := fun (house3 : Int) => (1 : Int)) (S := (fun house3 : Int => (lots1.length ≤ sizeLine))) (xs := row2) (Γx := (fun house3 : Int => [some (.dt ((cT (cT cI)).e rows1)), some (.dt ((cT (cT cI)).e lots1)), some (.dt ((cT cI).e row2)), some (.dt (cI.e house3)), none])) (ji_seqT (je_fzF (je_ownB (je_name rfl) rfl ((cT cI).F row2)) ((cT cI).F row2))) rfl hx.1 hx.2 (fun house3 => (jg_set rfl)) (fun house3 hx => (jt_val (je_op2 (je_lcP (cT cI).e cI.e (c := fun (lot3 : List Int) => (memB house3 lot3)) (f := fun (lot3 : List Int) => (1 : Int)) (S := (fun _ => True)) (xs := lots1) (Γx := (fun lot3 : List Int => [some (.dt ((cT (cT cI)).e rows1)), some (.dt ((cT (cT cI)).e lots1)), some (.dt ((cT cI).e row2)), some (.dt (cI.e house3)), some (.dt ((cT cI).e lot3))])) (ji_seqT (je_fzF (je_ownB (je_name rfl) rfl ((cT (cT cI)).F lots1)) ((cT (cT cI)).F lots1))) rfl hx (fun _ _ => True.intro) (fun lot3 => (jg_set rfl)) (fun lot3 hx => (jt_val (je_op2 (je_name rfl) (je_name rfl) rfl rfl (o_in cI (kle rfl) (xs := lot3) seqT house3)) rfl)) (fun lot3 hx hc50 => je_c) (fun _ => rfl) (back_any back_nil rfl)) (je_lst ja_nil rfl (sl_le rfl)) rfl rfl (o_neL cI (kle rfl) ((lots1.filter fun (lot3 : List Int) => (memB house3 lot3)).map fun (lot3 : List Int) => (1 : Int)) ([] : List Int))) rfl)) (fun house3 hx hc51 => je_c) (fun _ => rfl) (back_any back_nil rfl)) (je_lst ja_nil rfl (sl_le rfl)) rfl rfl (o_eqL cI (kle rfl) ((row2.filter fun (house3 : Int) => (!(decide (((lots1.filter fun (lot3 : List Int) => (memB house3 lot3)).map fun (lot3 : List Int) => (1 : Int)) = ([] : List Int))))).map fun (house3 : Int) => (1 : Int)) ([] : List Int))) rfl)) (fun row2 hx hc52 => je_c) (fun _ => rfl) (back_any back_nil rfl)) (je_lst ja_nil rfl (sl_le rfl)) rfl rfl (o_eqL cI (kle rfl) ((rows1.filter fun (row2 : List Int) => (decide (((row2.filter fun (house3 : Int) => (!(decide (((lots1.filter fun (lot3 : List Int) => (memB house3 lot3)).map fun (lot3 : List Int) => (1 : Int)) = ([] : List Int))))).map fun (house3 : Int) => (1 : Int)) = ([] : List Int)))).map fun (row2 : List Int) => (1 : Int)) ([] : List Int))) (kf_rt rfl))))
def K__law_hop_cut (m : (Option ((List Int) × (List Int)))) : Fl → Rho → Prop := Kf [false, false, false, false, false] ((cO (cP (rC (cT cI) (r1 (cT cI)))) (fun _ => rfl)).e m) [.non, .non, .non, .non, .non]
def T__law_hop_cut_1 (rows1 : List (List Int)) (one1 : List Int) (two1 : List Int) : Fo Unit (Fo Unit (Option ((List Int) × (List Int)))) := (if (T__law_meets rows1 ([one1, two1] : List (List Int))) = true then (.rt (.rt (some (one1, two1)))) else (.nx ()))
def S__law_hop_cut_1 (rows1 : List (List Int)) (one1 : List Int) (two1 : List Int) : Prop := (S__law_meets rows1 ([one1, two1] : List (List Int)))
theorem L__law_hop_cut_1 (net1 : Int × (List (Int × Int))) (liars1 : List (List Int)) (start1 : Int) (end1 : Int) (most1 : Int) (rows1 : List (List Int)) (x1 : Int × (List Int)) (s1 : Unit) (one1 : List Int) (other1 : List Int) (s2 : Unit) (two1 : List Int) (h : S__law_hop_cut_1 rows1 one1 two1) : JS [some (.dt ((cP (rC cI (r1 (cT (cP (rC cI (r1 cI))))))).e net1)), some (.dt ((cT (cT cI)).e liars1)), some (.dt (cI.e start1)), some (.dt (cI.e end1)), some (.dt (cI.e most1)), some (.dt ((cT (cT cI)).e rows1)), some (.dt (cI.e x1.1)), some (.dt ((cT cI).e x1.2)), some (.dt ((cT cI).e one1)), some (.dt ((cT cI).e other1)), some (.dt ((cT cI).e two1))] b__law_hop_cut_2 (Kl (Kl (K__law_hop_cut) (fun s1 : Unit => [some (.dt ((cP (rC cI (r1 (cT (cP (rC cI (r1 cI))))))).e net1)), some (.dt ((cT (cT cI)).e liars1)), some (.dt (cI.e start1)), some (.dt (cI.e end1)), some (.dt (cI.e most1)), some (.dt ((cT (cT cI)).e rows1)), none, none, none, none, none])) (fun s2 : Unit => [some (.dt ((cP (rC cI (r1 (cT (cP (rC cI (r1 cI))))))).e net1)), some (.dt ((cT (cT cI)).e liars1)), some (.dt (cI.e start1)), some (.dt (cI.e end1)), some (.dt (cI.e most1)), some (.dt ((cT (cT cI)).e rows1)), some (.dt (cI.e x1.1)), some (.dt ((cT cI).e x1.2)), some (.dt ((cT cI).e one1)), none, none]) (T__law_hop_cut_1 rows1 one1 two1)) := (js_last (js_if (Kl (Kl (K__law_hop_cut) (fun s1 : Unit => [some (.dt ((cP (rC cI (r1 (cT (cP (rC cI (r1 cI))))))).e net1)), some (.dt ((cT (cT cI)).e liars1)), some (.dt (cI.e start1)), some (.dt (cI.e end1)), some (.dt (cI.e most1)), some (.dt ((cT (cT cI)).e rows1)), none, none, none, none, none])) (fun s2 : Unit => [some (.dt ((cP (rC cI (r1 (cT (cP (rC cI (r1 cI))))))).e net1)), some (.dt ((cT (cT cI)).e liars1)), some (.dt (cI.e start1)), some (.dt (cI.e end1)), some (.dt (cI.e most1)), some (.dt ((cT (cT cI)).e rows1)), some (.dt (cI.e x1.1)), some (.dt ((cT cI).e x1.2)), some (.dt ((cT cI).e one1)), none, none])) (jt_val (je_callP (ja_cons (je_fzF (je_ownB (je_name rfl) rfl ((cT (cT cI)).F rows1)) ((cT (cT cI)).F rows1)) (ja_cons (je_tup (ja_cons (je_fzF (je_ownB (je_name rfl) rfl ((cT cI).F one1)) ((cT cI).F one1)) (ja_cons (je_fzF (je_ownB (je_name rfl) rfl ((cT cI).F two1)) ((cT cI).F two1)) ja_nil)) rfl (sl_le rfl)) ja_nil)) (ArgsE.v ((cT (cT cI)).F rows1) (ArgsE.v ((cT (cT cI)).F ([one1, two1] : List (List Int))) ArgsE.nil)) (L__law_meets rows1 ([one1, two1] : List (List Int)) h) rfl) rfl) (fun hc53 => (js_ret (je_tup (ja_cons (je_fzF (je_ownB (je_name rfl) rfl ((cT cI).F one1)) ((cT cI).F one1)) (ja_cons (je_fzF (je_ownB (je_name rfl) rfl ((cT cI).F two1)) ((cT cI).F two1)) ja_nil)) rfl (sl_le rfl)) (kl_rt (kl_rt (kf_rt rfl))))) (fun hc54 => (js_nx (js_end (kl_nx ⟨rfl, rfl, rfl, rfl, rfl, rfl, rfl, rfl, rfl, le_dt, le_dt, trivial⟩))))))
def T__law_hop_cut_2 (start1 : Int) (end1 : Int) (rows1 : List (List Int)) (one1 : List Int) (other1 : List Int) : Fo Unit (Fo Unit (Option ((List Int) × (List Int)))) := (T__law_hop_cut_1 rows1 one1 (T__law_less other1 (one1 ++ ([start1, end1] : List Int))))
def S__law_hop_cut_2 (start1 : Int) (end1 : Int) (rows1 : List (List Int)) (one1 : List Int) (other1 : List Int) : Prop := (one1.length + ([start1, end1] : List Int).length ≤ sizeLine) ∧ (S__law_less other1 (one1 ++ ([start1, end1] : List Int))) ∧ (S__law_hop_cut_1 rows1 one1 (T__law_less other1 (one1 ++ ([start1, end1] : List Int))))
theorem L__law_hop_cut_2 (net1 : Int × (List (Int × Int))) (liars1 : List (List Int)) (start1 : Int) (end1 : Int) (most1 : Int) (rows1 : List (List Int)) (x1 : Int × (List Int)) (s1 : Unit) (one1 : List Int) (other1 : List Int) (s2 : Unit) (h : S__law_hop_cut_2 start1 end1 rows1 one1 other1) : JS [some (.dt ((cP (rC cI (r1 (cT (cP (rC cI (r1 cI))))))).e net1)), some (.dt ((cT (cT cI)).e liars1)), some (.dt (cI.e start1)), some (.dt (cI.e end1)), some (.dt (cI.e most1)), some (.dt ((cT (cT cI)).e rows1)), some (.dt (cI.e x1.1)), some (.dt ((cT cI).e x1.2)), some (.dt ((cT cI).e one1)), some (.dt ((cT cI).e other1)), none] b__law_hop_cut_3 (Kl (Kl (K__law_hop_cut) (fun s1 : Unit => [some (.dt ((cP (rC cI (r1 (cT (cP (rC cI (r1 cI))))))).e net1)), some (.dt ((cT (cT cI)).e liars1)), some (.dt (cI.e start1)), some (.dt (cI.e end1)), some (.dt (cI.e most1)), some (.dt ((cT (cT cI)).e rows1)), none, none, none, none, none])) (fun s2 : Unit => [some (.dt ((cP (rC cI (r1 (cT (cP (rC cI (r1 cI))))))).e net1)), some (.dt ((cT (cT cI)).e liars1)), some (.dt (cI.e start1)), some (.dt (cI.e end1)), some (.dt (cI.e most1)), some (.dt ((cT (cT cI)).e rows1)), some (.dt (cI.e x1.1)), some (.dt ((cT cI).e x1.2)), some (.dt ((cT cI).e one1)), none, none]) (T__law_hop_cut_2 start1 end1 rows1 one1 other1)) := (js_asg (je_callP (ja_cons (je_fzF (je_ownB (je_name rfl) rfl ((cT cI).F other1)) ((cT cI).F other1)) (ja_cons (je_op2 (je_name rfl) (je_tup (ja_cons (je_fzF (je_ownB (je_name rfl) rfl (cI.F start1)) (cI.F start1)) (ja_cons (je_fzF (je_ownB (je_name rfl) rfl (cI.F end1)) (cI.F end1)) ja_nil)) rfl (sl_le rfl)) rfl rfl (o_addT cI (xs := one1) (ys := ([start1, end1] : List Int)) h.1)) ja_nil)) (ArgsE.v ((cT cI).F other1) (ArgsE.v ((cT cI).F (one1 ++ ([start1, end1] : List Int))) ArgsE.nil)) (L__law_less other1 (one1 ++ ([start1, end1] : List Int)) h.2.1) rfl) (jg_set rfl) (L__law_hop_cut_1 net1 liars1 start1 end1 most1 rows1 x1 s1 one1 other1 s2 (T__law_less other1 (one1 ++ ([start1, end1] : List Int))) h.2.2))
def T__law_hop_cut_3  : Fo Unit (Option ((List Int) × (List Int))) := (.nx ())
theorem L__law_hop_cut_3 (net1 : Int × (List (Int × Int))) (liars1 : List (List Int)) (start1 : Int) (end1 : Int) (most1 : Int) (rows1 : List (List Int)) (x1 : Int × (List Int)) (s1 : Unit) (one1 : List Int) : JS [some (.dt ((cP (rC cI (r1 (cT (cP (rC cI (r1 cI))))))).e net1)), some (.dt ((cT (cT cI)).e liars1)), some (.dt (cI.e start1)), some (.dt (cI.e end1)), some (.dt (cI.e most1)), some (.dt ((cT (cT cI)).e rows1)), some (.dt (cI.e x1.1)), some (.dt ((cT cI).e x1.2)), some (.dt ((cT cI).e one1)), none, none] fNx (Kl (K__law_hop_cut) (fun s1 : Unit => [some (.dt ((cP (rC cI (r1 (cT (cP (rC cI (r1 cI))))))).e net1)), some (.dt ((cT (cT cI)).e liars1)), some (.dt (cI.e start1)), some (.dt (cI.e end1)), some (.dt (cI.e most1)), some (.dt ((cT (cT cI)).e rows1)), none, none, none, none, none]) (T__law_hop_cut_3 )) := (js_end (kl_nx ⟨rfl, rfl, rfl, rfl, rfl, rfl, le_dt, le_dt, le_dt, trivial, trivial, trivial⟩))
def T__law_hop_cut_4 (liars1 : List (List Int)) (start1 : Int) (end1 : Int) (rows1 : List (List Int)) (x1 : Int × (List Int)) (one1 : List Int) : Fo Unit (Option ((List Int) × (List Int))) := ((forB (fun (other1 : List Int) (s2 : Unit) => T__law_hop_cut_2 start1 end1 rows1 one1 other1) (cutF liars1 (some x1.1) none) ()).to (fun (s2 : Unit) => T__law_hop_cut_3 ))
def S__law_hop_cut_4 (liars1 : List (List Int)) (start1 : Int) (end1 : Int) (rows1 : List (List Int)) (x1 : Int × (List Int)) (one1 : List Int) : Prop := (forS (fun (other1 : List Int) (s2 : Unit) => S__law_hop_cut_2 start1 end1 rows1 one1 other1) (fun (other1 : List Int) (s2 : Unit) => T__law_hop_cut_2 start1 end1 rows1 one1 other1) (cutF liars1 (some x1.1) none) ())
theorem L__law_hop_cut_4 (net1 : Int × (List (Int × Int))) (liars1 : List (List Int)) (start1 : Int) (end1 : Int) (most1 : Int) (rows1 : List (List Int)) (x1 : Int × (List Int)) (s1 : Unit) (one1 : List Int) (h : S__law_hop_cut_4 liars1 start1 end1 rows1 x1 one1) : JS [some (.dt ((cP (rC cI (r1 (cT (cP (rC cI (r1 cI))))))).e net1)), some (.dt ((cT (cT cI)).e liars1)), some (.dt (cI.e start1)), some (.dt (cI.e end1)), some (.dt (cI.e most1)), some (.dt ((cT (cT cI)).e rows1)), some (.dt (cI.e x1.1)), some (.dt ((cT cI).e x1.2)), some (.dt ((cT cI).e one1)), none, none] b__law_hop_cut_4 (Kl (K__law_hop_cut) (fun s1 : Unit => [some (.dt ((cP (rC cI (r1 (cT (cP (rC cI (r1 cI))))))).e net1)), some (.dt ((cT (cT cI)).e liars1)), some (.dt (cI.e start1)), some (.dt (cI.e end1)), some (.dt (cI.e most1)), some (.dt ((cT (cT cI)).e rows1)), none, none, none, none, none]) (T__law_hop_cut_4 liars1 start1 end1 rows1 x1 one1)) := (js_last (js_for (Kl (K__law_hop_cut) (fun s1 : Unit => [some (.dt ((cP (rC cI (r1 (cT (cP (rC cI (r1 cI))))))).e net1)), some (.dt ((cT (cT cI)).e liars1)), some (.dt (cI.e start1)), some (.dt (cI.e end1)), some (.dt (cI.e most1)), some (.dt ((cT (cT cI)).e rows1)), none, none, none, none, none])) (fun s2 : Unit => [some (.dt ((cP (rC cI (r1 (cT (cP (rC cI (r1 cI))))))).e net1)), some (.dt ((cT (cT cI)).e liars1)), some (.dt (cI.e start1)), some (.dt (cI.e end1)), some (.dt (cI.e most1)), some (.dt ((cT (cT cI)).e rows1)), some (.dt (cI.e x1.1)), some (.dt ((cT cI).e x1.2)), some (.dt ((cT cI).e one1)), none, none]) (cT cI).e (b := (fun (other1 : List Int) (s2 : Unit) => T__law_hop_cut_2 start1 end1 rows1 one1 other1)) (S := (fun (other1 : List Int) (s2 : Unit) => S__law_hop_cut_2 start1 end1 rows1 one1 other1)) (Sr := (fun _ => True)) (mr := (fun (s2 : Unit) => T__law_hop_cut_3 )) (xs := (cutF liars1 (some x1.1) none)) (s0 := ()) (ji_seqT (je_fzF (je_ownV (je_cutT (cT cI) (xs := liars1) (je_name rfl) (jo_some (je_name rfl) rfl) jo_no rfl)) ((cT (cT cI)).F (cutF liars1 (some x1.1) none)))) ⟨rfl, rfl, rfl, rfl, rfl, rfl, rfl, rfl, rfl, trivial, trivial, trivial⟩ h (fun other1 s2 hb => ⟨_, (jg_set rfl), L__law_hop_cut_2 net1 liars1 start1 end1 most1 rows1 x1 s1 one1 other1 s2 hb⟩) all_T (fun s2 _ => L__law_hop_cut_3 net1 liars1 start1 end1 most1 rows1 x1 s1 one1)))
def T__law_hop_cut_5 (liars1 : List (List Int)) (start1 : Int) (end1 : Int) (rows1 : List (List Int)) (x1 : Int × (List Int)) : Fo Unit (Option ((List Int) × (List Int))) := (T__law_hop_cut_4 liars1 start1 end1 rows1 x1 (T__law_less x1.2 ([start1, end1] : List Int)))
def S__law_hop_cut_5 (liars1 : List (List Int)) (start1 : Int) (end1 : Int) (rows1 : List (List Int)) (x1 : Int × (List Int)) : Prop := (S__law_less x1.2 ([start1, end1] : List Int)) ∧ (S__law_hop_cut_4 liars1 start1 end1 rows1 x1 (T__law_less x1.2 ([start1, end1] : List Int)))
theorem L__law_hop_cut_5 (net1 : Int × (List (Int × Int))) (liars1 : List (List Int)) (start1 : Int) (end1 : Int) (most1 : Int) (rows1 : List (List Int)) (x1 : Int × (List Int)) (s1 : Unit) (h : S__law_hop_cut_5 liars1 start1 end1 rows1 x1) : JS [some (.dt ((cP (rC cI (r1 (cT (cP (rC cI (r1 cI))))))).e net1)), some (.dt ((cT (cT cI)).e liars1)), some (.dt (cI.e start1)), some (.dt (cI.e end1)), some (.dt (cI.e most1)), some (.dt ((cT (cT cI)).e rows1)), some (.dt (cI.e x1.1)), some (.dt ((cT cI).e x1.2)), none, none, none] b__law_hop_cut_5 (Kl (K__law_hop_cut) (fun s1 : Unit => [some (.dt ((cP (rC cI (r1 (cT (cP (rC cI (r1 cI))))))).e net1)), some (.dt ((cT (cT cI)).e liars1)), some (.dt (cI.e start1)), some (.dt (cI.e end1)), some (.dt (cI.e most1)), some (.dt ((cT (cT cI)).e rows1)), none, none, none, none, none]) (T__law_hop_cut_5 liars1 start1 end1 rows1 x1)) := (js_asg (je_callP (ja_cons (je_fzF (je_ownB (je_name rfl) rfl ((cT cI).F x1.2)) ((cT cI).F x1.2)) (ja_cons (je_tup (ja_cons (je_fzF (je_ownB (je_name rfl) rfl (cI.F start1)) (cI.F start1)) (ja_cons (je_fzF (je_ownB (je_name rfl) rfl (cI.F end1)) (cI.F end1)) ja_nil)) rfl (sl_le rfl)) ja_nil)) (ArgsE.v ((cT cI).F x1.2) (ArgsE.v ((cT cI).F ([start1, end1] : List Int)) ArgsE.nil)) (L__law_less x1.2 ([start1, end1] : List Int) h.1) rfl) (jg_set rfl) (L__law_hop_cut_4 net1 liars1 start1 end1 most1 rows1 x1 s1 (T__law_less x1.2 ([start1, end1] : List Int)) h.2))
def T__law_hop_cut_6  : (Option ((List Int) × (List Int))) := (none : Option ((List Int) × (List Int)))
theorem L__law_hop_cut_6 (net1 : Int × (List (Int × Int))) (liars1 : List (List Int)) (start1 : Int) (end1 : Int) (most1 : Int) (rows1 : List (List Int)) : JS [some (.dt ((cP (rC cI (r1 (cT (cP (rC cI (r1 cI))))))).e net1)), some (.dt ((cT (cT cI)).e liars1)), some (.dt (cI.e start1)), some (.dt (cI.e end1)), some (.dt (cI.e most1)), some (.dt ((cT (cT cI)).e rows1)), none, none, none, none, none] b__law_hop_cut_6 (K__law_hop_cut (T__law_hop_cut_6 )) := (js_last (js_ret je_c (kf_rt rfl)))
def T__law_hop_cut_7 (liars1 : List (List Int)) (start1 : Int) (end1 : Int) (rows1 : List (List Int)) : (Option ((List Int) × (List Int))) := ((forB (fun (x1 : Int × (List Int)) (s1 : Unit) => T__law_hop_cut_5 liars1 start1 end1 rows1 x1) (enumF 0 liars1) ()).to (fun (s1 : Unit) => T__law_hop_cut_6 ))
def S__law_hop_cut_7 (liars1 : List (List Int)) (start1 : Int) (end1 : Int) (rows1 : List (List Int)) : Prop := (forS (fun (x1 : Int × (List Int)) (s1 : Unit) => S__law_hop_cut_5 liars1 start1 end1 rows1 x1) (fun (x1 : Int × (List Int)) (s1 : Unit) => T__law_hop_cut_5 liars1 start1 end1 rows1 x1) (enumF 0 liars1) ())
theorem L__law_hop_cut_7 (net1 : Int × (List (Int × Int))) (liars1 : List (List Int)) (start1 : Int) (end1 : Int) (most1 : Int) (rows1 : List (List Int)) (h : S__law_hop_cut_7 liars1 start1 end1 rows1) : JS [some (.dt ((cP (rC cI (r1 (cT (cP (rC cI (r1 cI))))))).e net1)), some (.dt ((cT (cT cI)).e liars1)), some (.dt (cI.e start1)), some (.dt (cI.e end1)), some (.dt (cI.e most1)), some (.dt ((cT (cT cI)).e rows1)), some .un, some .un, some .un, some .un, some .un] b__law_hop_cut_7 (K__law_hop_cut (T__law_hop_cut_7 liars1 start1 end1 rows1)) := (js_for (K__law_hop_cut) (fun s1 : Unit => [some (.dt ((cP (rC cI (r1 (cT (cP (rC cI (r1 cI))))))).e net1)), some (.dt ((cT (cT cI)).e liars1)), some (.dt (cI.e start1)), some (.dt (cI.e end1)), some (.dt (cI.e most1)), some (.dt ((cT (cT cI)).e rows1)), none, none, none, none, none]) (cP (rC cI (r1 (cT cI)))).e (b := (fun (x1 : Int × (List Int)) (s1 : Unit) => T__law_hop_cut_5 liars1 start1 end1 rows1 x1)) (S := (fun (x1 : Int × (List Int)) (s1 : Unit) => S__law_hop_cut_5 liars1 start1 end1 rows1 x1)) (Sr := (fun _ => True)) (mr := (fun (s1 : Unit) => T__law_hop_cut_6 )) (xs := (enumF 0 liars1)) (s0 := ()) (ji_enum (cT cI).e (xs := liars1) (je_fzF (je_ownB (je_name rfl) rfl ((cT (cT cI)).F liars1)) ((cT (cT cI)).F liars1)) (fun _ => rfl)) ⟨rfl, rfl, rfl, rfl, rfl, rfl, le_un, le_un, le_un, le_un, le_un, trivial⟩ h (fun x1 s1 hb => ⟨_, (jg_tup (.cons (jg_set rfl) (.cons (jg_set rfl) .nil))), L__law_hop_cut_5 net1 liars1 start1 end1 most1 rows1 x1 s1 hb⟩) all_T (fun s1 _ => L__law_hop_cut_6 net1 liars1 start1 end1 most1 rows1))
def T__law_hop_cut (net1 : Int × (List (Int × Int))) (liars1 : List (List Int)) (start1 : Int) (end1 : Int) (most1 : Int) : (Option ((List Int) × (List Int))) := (T__law_hop_cut_7 liars1 start1 end1 (T__law_short net1 start1 end1 most1))
theorem T__law_hop_cut_eq (net1 : Int × (List (Int × Int))) (liars1 : List (List Int)) (start1 : Int) (end1 : Int) (most1 : Int) : T__law_hop_cut net1 liars1 start1 end1 most1 = (T__law_hop_cut_7 liars1 start1 end1 (T__law_short net1 start1 end1 most1)) := rfl
def S__law_hop_cut (net1 : Int × (List (Int × Int))) (liars1 : List (List Int)) (start1 : Int) (end1 : Int) (most1 : Int) : Prop := (S__law_short net1 start1 end1 most1) ∧ (S__law_hop_cut_7 liars1 start1 end1 (T__law_short net1 start1 end1 most1))
theorem S__law_hop_cut_eq (net1 : Int × (List (Int × Int))) (liars1 : List (List Int)) (start1 : Int) (end1 : Int) (most1 : Int) : S__law_hop_cut net1 liars1 start1 end1 most1 = ((S__law_short net1 start1 end1 most1) ∧ (S__law_hop_cut_7 liars1 start1 end1 (T__law_short net1 start1 end1 most1))) := rfl
theorem L__law_hop_cut (net1 : Int × (List (Int × Int))) (liars1 : List (List Int)) (start1 : Int) (end1 : Int) (most1 : Int) (h : S__law_hop_cut net1 liars1 start1 end1 most1) : F__law_hop_cut [((cP (rC cI (r1 (cT (cP (rC cI (r1 cI))))))).e net1), ((cT (cT cI)).e liars1), (cI.e start1), (cI.e end1), (cI.e most1)] = .ok ((cO (cP (rC (cT cI) (r1 (cT cI)))) (fun _ => rfl)).e (T__law_hop_cut net1 liars1 start1 end1 most1)) [.non, .non, .non, .non, .non] := fn_of (n := 11) (show JS [some (.dt ((cP (rC cI (r1 (cT (cP (rC cI (r1 cI))))))).e net1)), some (.dt ((cT (cT cI)).e liars1)), some (.dt (cI.e start1)), some (.dt (cI.e end1)), some (.dt (cI.e most1)), some .un, some .un, some .un, some .un, some .un, some .un] b__law_hop_cut_8 (K__law_hop_cut (T__law_hop_cut net1 liars1 start1 end1 most1)) from (js_asg (je_callP (ja_cons (je_fzF (je_ownB (je_name rfl) rfl ((cP (rC cI (r1 (cT (cP (rC cI (r1 cI))))))).F net1)) ((cP (rC cI (r1 (cT (cP (rC cI (r1 cI))))))).F net1)) (ja_cons (je_fzF (je_ownB (je_name rfl) rfl (cI.F start1)) (cI.F start1)) (ja_cons (je_fzF (je_ownB (je_name rfl) rfl (cI.F end1)) (cI.F end1)) (ja_cons (je_fzF (je_ownB (je_name rfl) rfl (cI.F most1)) (cI.F most1)) ja_nil)))) (ArgsE.v ((cP (rC cI (r1 (cT (cP (rC cI (r1 cI))))))).F net1) (ArgsE.v (cI.F start1) (ArgsE.v (cI.F end1) (ArgsE.v (cI.F most1) ArgsE.nil)))) (L__law_short net1 start1 end1 most1 h.1) rfl) (jg_set rfl) (L__law_hop_cut_7 net1 liars1 start1 end1 most1 (T__law_short net1 start1 end1 most1) h.2)))
def K__law_reports (m : ((List ((List Int) × (Option Int))) × (List ((List Int) × (Option Int)))) × List Int) : Fl → Rho → Prop := Kf [true, false, false, false, false, false, false] ((cP (rC (cT (cP (rC (cT cI) (r1 (cO cI (fun _ => rfl)))))) (r1 (cT (cP (rC (cT cI) (r1 (cO cI (fun _ => rfl))))))))).e m.1) [((oL cI.e) m.2), .non, .non, .non, .non, .non, .non]
def T__law_reports_1 (s1 : (List Int) × (List ((List Int) × (Option Int))) × (List ((List Int) × (Option Int)))) (rows2 : List ((List Int) × (Option Int))) : (List Int) × (List ((List Int) × (Option Int))) × (List ((List Int) × (Option Int))) := (s1.1, s1.2.1, rows2)
theorem L__law_reports_1 (net1 : Int × (List (Int × Int))) (start1 : Int) (end1 : Int) (value1 : Int) (lot1 : List Int) (values1 : Int) (way1 : Int) (trail1 : List Int) (s1 : (List Int) × (List ((List Int) × (Option Int))) × (List ((List Int) × (Option Int)))) (rows2 : List ((List Int) × (Option Int))) : JS [some (.io ((oL cI.e) s1.1)), some (.dt ((cP (rC cI (r1 (cT (cP (rC cI (r1 cI))))))).e net1)), some (.dt (cI.e start1)), some (.dt (cI.e end1)), some (.dt (cI.e value1)), some (.dt ((cT cI).e lot1)), some (.dt (cI.e values1)), some (.dt ((oL (cP (rC (cT cI) (r1 (cO cI (fun _ => rfl))))).e) s1.2.1)), some (.dt ((oL (cP (rC (cT cI) (r1 (cO cI (fun _ => rfl))))).e) rows2)), some (.dt (cI.e way1)), some (.dt ((cT cI).e trail1)), none, none] (fSeq b__law_reports_3 b__law_reports_8) (Kn (M := ((List ((List Int) × (Option Int))) × (List ((List Int) × (Option Int)))) × List Int) (K__law_reports) (fun s1 : (List Int) × (List ((List Int) × (Option Int))) × (List ((List Int) × (Option Int))) => [some (.io ((oL cI.e) s1.1)), some (.dt ((cP (rC cI (r1 (cT (cP (rC cI (r1 cI))))))).e net1)), some (.dt (cI.e start1)), some (.dt (cI.e end1)), some (.dt (cI.e value1)), some (.dt ((cT cI).e lot1)), some (.dt (cI.e values1)), some (.dt ((oL (cP (rC (cT cI) (r1 (cO cI (fun _ => rfl))))).e) s1.2.1)), some (.dt ((oL (cP (rC (cT cI) (r1 (cO cI (fun _ => rfl))))).e) s1.2.2)), some (.dt (cI.e way1)), none, none, none]) (T__law_reports_1 s1 rows2)) := (js_ct (kn_ct ⟨rfl, rfl, rfl, rfl, rfl, rfl, rfl, rfl, rfl, rfl, le_dt, trivial, trivial, trivial⟩))
def T__law_reports_2 (trail1 : List Int) (s1 : (List Int) × (List ((List Int) × (Option Int))) × (List ((List Int) × (Option Int)))) (box3 : List Int) (said1 : Option Int) (j1 : List ((List Int) × (Option Int))) : (List Int) × (List ((List Int) × (Option Int))) × (List ((List Int) × (Option Int))) := ((if said1.isSome = true then box3 else (T__law_take box3 (2 : Int)).2), j1, (s1.2.2 ++ [(trail1, said1)]))
def S__law_reports_2 (s1 : (List Int) × (List ((List Int) × (Option Int))) × (List ((List Int) × (Option Int)))) : Prop := (s1.2.2.length < sizeLine)
theorem L__law_reports_2 (net1 : Int × (List (Int × Int))) (start1 : Int) (end1 : Int) (value1 : Int) (lot1 : List Int) (values1 : Int) (way1 : Int) (trail1 : List Int) (s1 : (List Int) × (List ((List Int) × (Option Int))) × (List ((List Int) × (Option Int)))) (box3 : List Int) (said1 : Option Int) (j1 : List ((List Int) × (Option Int))) (h : S__law_reports_2 s1) : JS [some (.io ((oL cI.e) (if said1.isSome = true then box3 else (T__law_take box3 (2 : Int)).2))), some (.dt ((cP (rC cI (r1 (cT (cP (rC cI (r1 cI))))))).e net1)), some (.dt (cI.e start1)), some (.dt (cI.e end1)), some (.dt (cI.e value1)), some (.dt ((cT cI).e lot1)), some (.dt (cI.e values1)), some (.dt ((oL (cP (rC (cT cI) (r1 (cO cI (fun _ => rfl))))).e) j1)), some (.dt ((oL (cP (rC (cT cI) (r1 (cO cI (fun _ => rfl))))).e) s1.2.2)), some (.dt (cI.e way1)), some (.dt ((cT cI).e trail1)), some (.dt ((cO cI (fun _ => rfl)).e said1)), none] b__law_reports_6 (Kn (M := ((List ((List Int) × (Option Int))) × (List ((List Int) × (Option Int)))) × List Int) (K__law_reports) (fun s1 : (List Int) × (List ((List Int) × (Option Int))) × (List ((List Int) × (Option Int))) => [some (.io ((oL cI.e) s1.1)), some (.dt ((cP (rC cI (r1 (cT (cP (rC cI (r1 cI))))))).e net1)), some (.dt (cI.e start1)), some (.dt (cI.e end1)), some (.dt (cI.e value1)), some (.dt ((cT cI).e lot1)), some (.dt (cI.e values1)), some (.dt ((oL (cP (rC (cT cI) (r1 (cO cI (fun _ => rfl))))).e) s1.2.1)), some (.dt ((oL (cP (rC (cT cI) (r1 (cO cI (fun _ => rfl))))).e) s1.2.2)), some (.dt (cI.e way1)), none, none, none]) (T__law_reports_2 trail1 s1 box3 said1 j1)) := (js_last (js_drop (je_app (cP (rC (cT cI) (r1 (cO cI (fun _ => rfl))))).e Sl.dt w_dt w_dt2 (xs := s1.2.2) (x := (trail1, said1)) rfl (je_tup (ja_cons (je_fzF (je_ownB (je_name rfl) rfl ((cT cI).F trail1)) ((cT cI).F trail1)) (ja_cons (je_fzF (je_ownB (je_name rfl) rfl ((cO cI (fun _ => rfl)).F said1)) ((cO cI (fun _ => rfl)).F said1)) ja_nil)) rfl (sl_le rfl)) rfl h) (js_end (kn_nx ⟨rfl, rfl, rfl, rfl, rfl, rfl, rfl, rfl, rfl, rfl, le_dt, le_dt, trivial, trivial⟩))))
def T__law_reports_3 (trail1 : List Int) (s1 : (List Int) × (List ((List Int) × (Option Int))) × (List ((List Int) × (Option Int)))) (box3 : List Int) (said1 : Option Int) : (List Int) × (List ((List Int) × (Option Int))) × (List ((List Int) × (Option Int))) := (T__law_reports_2 trail1 s1 box3 said1 (if (said1.isSome || (decide ((T__law_take box3 (2 : Int)).1 = (0 : Int)))) = true then (s1.2.1 ++ [(trail1, said1)]) else s1.2.1))
def S__law_reports_3 (s1 : (List Int) × (List ((List Int) × (Option Int))) × (List ((List Int) × (Option Int)))) (box3 : List Int) (said1 : Option Int) : Prop := ((said1.isSome) = false → (S__law_take box3 (2 : Int))) ∧ (((said1.isSome || (decide ((T__law_take box3 (2 : Int)).1 = (0 : Int))))) = true → (s1.2.1.length < sizeLine)) ∧ (S__law_reports_2 s1)
theorem L__law_reports_3 (net1 : Int × (List (Int × Int))) (start1 : Int) (end1 : Int) (value1 : Int) (lot1 : List Int) (values1 : Int) (way1 : Int) (trail1 : List Int) (s1 : (List Int) × (List ((List Int) × (Option Int))) × (List ((List Int) × (Option Int)))) (box3 : List Int) (said1 : Option Int) (h : S__law_reports_3 s1 box3 said1) : JS [some (.io ((oL cI.e) box3)), some (.dt ((cP (rC cI (r1 (cT (cP (rC cI (r1 cI))))))).e net1)), some (.dt (cI.e start1)), some (.dt (cI.e end1)), some (.dt (cI.e value1)), some (.dt ((cT cI).e lot1)), some (.dt (cI.e values1)), some (.dt ((oL (cP (rC (cT cI) (r1 (cO cI (fun _ => rfl))))).e) s1.2.1)), some (.dt ((oL (cP (rC (cT cI) (r1 (cO cI (fun _ => rfl))))).e) s1.2.2)), some (.dt (cI.e way1)), some (.dt ((cT cI).e trail1)), some (.dt ((cO cI (fun _ => rfl)).e said1)), none] b__law_reports_7 (Kn (M := ((List ((List Int) × (Option Int))) × (List ((List Int) × (Option Int)))) × List Int) (K__law_reports) (fun s1 : (List Int) × (List ((List Int) × (Option Int))) × (List ((List Int) × (Option Int))) => [some (.io ((oL cI.e) s1.1)), some (.dt ((cP (rC cI (r1 (cT (cP (rC cI (r1 cI))))))).e net1)), some (.dt (cI.e start1)), some (.dt (cI.e end1)), some (.dt (cI.e value1)), some (.dt ((cT cI).e lot1)), some (.dt (cI.e values1)), some (.dt ((oL (cP (rC (cT cI) (r1 (cO cI (fun _ => rfl))))).e) s1.2.1)), some (.dt ((oL (cP (rC (cT cI) (r1 (cO cI (fun _ => rfl))))).e) s1.2.2)), some (.dt (cI.e way1)), none, none, none]) (T__law_reports_3 trail1 s1 box3 said1)) := (js_join (Kn (M := ((List ((List Int) × (Option Int))) × (List ((List Int) × (Option Int)))) × List Int) (K__law_reports) (fun s1 : (List Int) × (List ((List Int) × (Option Int))) × (List ((List Int) × (Option Int))) => [some (.io ((oL cI.e) s1.1)), some (.dt ((cP (rC cI (r1 (cT (cP (rC cI (r1 cI))))))).e net1)), some (.dt (cI.e start1)), some (.dt (cI.e end1)), some (.dt (cI.e value1)), some (.dt ((cT cI).e lot1)), some (.dt (cI.e values1)), some (.dt ((oL (cP (rC (cT cI) (r1 (cO cI (fun _ => rfl))))).e) s1.2.1)), some (.dt ((oL (cP (rC (cT cI) (r1 (cO cI (fun _ => rfl))))).e) s1.2.2)), some (.dt (cI.e way1)), none, none, none])) (fun j1 : List ((List Int) × (Option Int)) => [some (.io ((oL cI.e) (if said1.isSome = true then box3 else (T__law_take box3 (2 : Int)).2))), some (.dt ((cP (rC cI (r1 (cT (cP (rC cI (r1 cI))))))).e net1)), some (.dt (cI.e start1)), some (.dt (cI.e end1)), some (.dt (cI.e value1)), some (.dt ((cT cI).e lot1)), some (.dt (cI.e values1)), some (.dt ((oL (cP (rC (cT cI) (r1 (cO cI (fun _ => rfl))))).e) j1)), some (.dt ((oL (cP (rC (cT cI) (r1 (cO cI (fun _ => rfl))))).e) s1.2.2)), some (.dt (cI.e way1)), some (.dt ((cT cI).e trail1)), some (.dt ((cO cI (fun _ => rfl)).e said1)), none]) (mr := (fun j1 : List ((List Int) × (Option Int)) => T__law_reports_2 trail1 s1 box3 said1 j1)) (jt_orX (fun e2 : List Int => [some (.io ((oL cI.e) e2)), some (.dt ((cP (rC cI (r1 (cT (cP (rC cI (r1 cI))))))).e net1)), some (.dt (cI.e start1)), some (.dt (cI.e end1)), some (.dt (cI.e value1)), some (.dt ((cT cI).e lot1)), some (.dt (cI.e values1)), some (.dt ((oL (cP (rC (cT cI) (r1 (cO cI (fun _ => rfl))))).e) s1.2.1)), some (.dt ((oL (cP (rC (cT cI) (r1 (cO cI (fun _ => rfl))))).e) s1.2.2)), some (.dt (cI.e way1)), some (.dt ((cT cI).e trail1)), some (.dt ((cO cI (fun _ => rfl)).e said1)), none]) (s0 := box3) (s1 := (T__law_take box3 (2 : Int)).2) (jt_val (je_op1 (je_name rfl) rfl (o_notN cI (fun _ => rfl) said1)) rfl) (fun hc60 => (jt_val (je_op2 (je_callU (ja_cons (je_name rfl) (ja_cons je_c ja_nil)) (ArgsE.b rfl rfl (ArgsE.v (cI.F (2 : Int)) ArgsE.nil)) (L__law_take box3 (2 : Int) (h.1 hc60)) (nd_of rfl)) je_c rfl rfl (o_eq cI (kle rfl) ((T__law_take box3 (2 : Int)).1) (0 : Int))) rfl))) (fun hc61 => (js_last (js_drop (je_app (cP (rC (cT cI) (r1 (cO cI (fun _ => rfl))))).e Sl.dt w_dt w_dt2 (xs := s1.2.1) (x := (trail1, said1)) rfl (je_tup (ja_cons (je_fzF (je_ownB (je_name rfl) rfl ((cT cI).F trail1)) ((cT cI).F trail1)) (ja_cons (je_fzF (je_ownB (je_name rfl) rfl ((cO cI (fun _ => rfl)).F said1)) ((cO cI (fun _ => rfl)).F said1)) ja_nil)) rfl (sl_le rfl)) rfl (h.2.1 hc61)) (js_end (kj_of ⟨rfl, rfl, rfl, rfl, rfl, rfl, rfl, rfl, rfl, rfl, rfl, rfl, trivial, trivial⟩))))) (fun hc62 => (js_end (kj_of ⟨rfl, rfl, rfl, rfl, rfl, rfl, rfl, rfl, rfl, rfl, rfl, rfl, trivial, trivial⟩))) (L__law_reports_2 net1 start1 end1 value1 lot1 values1 way1 trail1 s1 box3 said1 (if (said1.isSome || (decide ((T__law_take box3 (2 : Int)).1 = (0 : Int)))) = true then (s1.2.1 ++ [(trail1, said1)]) else s1.2.1) h.2.2))
def T__law_reports_4 (value1 : Int) (lot1 : List Int) (values1 : Int) (way1 : Int) (trail1 : List Int) (s1 : (List Int) × (List ((List Int) × (Option Int))) × (List ((List Int) × (Option Int)))) : (List Int) × (List ((List Int) × (Option Int))) × (List ((List Int) × (Option Int))) := (if (decide (((trail1.filter fun (house1 : Int) => (memB house1 lot1)).map fun (house1 : Int) => (1 : Int)) = ([] : List Int))) = true then (T__law_reports_1 s1 (s1.2.2 ++ [(trail1, (some value1))])) else (T__law_reports_3 trail1 s1 (if (decide ((0 : Int) < way1)) = true then (T__law_pick (T__law_take s1.1 values1).2 ([(none : Option Int), (some ((T__law_take s1.1 values1).1)), (some ((value1 + (1 : Int)) % values1)), (some value1)] : List (Option Int)) none).2 else s1.1) (if (decide ((0 : Int) < way1)) = true then (T__law_pick (T__law_take s1.1 values1).2 ([(none : Option Int), (some ((T__law_take s1.1 values1).1)), (some ((value1 + (1 : Int)) % values1)), (some value1)] : List (Option Int)) none).1 else (some ((value1 + (1 : Int)) % values1)))))
def S__law_reports_4 (value1 : Int) (lot1 : List Int) (values1 : Int) (way1 : Int) (trail1 : List Int) (s1 : (List Int) × (List ((List Int) × (Option Int))) × (List ((List Int) × (Option Int)))) : Prop := (trail1.length ≤ sizeLine) ∧ (((decide (((trail1.filter fun (house1 : Int) => (memB house1 lot1)).map fun (house1 : Int) => (1 : Int)) = ([] : List Int)))) = true → (s1.2.2.length < sizeLine)) ∧ (((decide (((trail1.filter fun (house1 : Int) => (memB house1 lot1)).map fun (house1 : Int) => (1 : Int)) = ([] : List Int)))) = false → ((((decide ((0 : Int) < way1))) = true → ((S__law_take s1.1 values1) ∧ (0 < values1) ∧ (S__law_pick (T__law_take s1.1 values1).2 ([(none : Option Int), (some ((T__law_take s1.1 values1).1)), (some ((value1 + (1 : Int)) % values1)), (some value1)] : List (Option Int))))) ∧ (((decide ((0 : Int) < way1))) = false → (0 < values1)) ∧ (S__law_reports_3 s1 (if (decide ((0 : Int) < way1)) = true then (T__law_pick (T__law_take s1.1 values1).2 ([(none : Option Int), (some ((T__law_take s1.1 values1).1)), (some ((value1 + (1 : Int)) % values1)), (some value1)] : List (Option Int)) none).2 else s1.1) (if (decide ((0 : Int) < way1)) = true then (T__law_pick (T__law_take s1.1 values1).2 ([(none : Option Int), (some ((T__law_take s1.1 values1).1)), (some ((value1 + (1 : Int)) % values1)), (some value1)] : List (Option Int)) none).1 else (some ((value1 + (1 : Int)) % values1))))))
theorem L__law_reports_4 (net1 : Int × (List (Int × Int))) (start1 : Int) (end1 : Int) (value1 : Int) (lot1 : List Int) (values1 : Int) (way1 : Int) (trail1 : List Int) (s1 : (List Int) × (List ((List Int) × (Option Int))) × (List ((List Int) × (Option Int)))) (h : S__law_reports_4 value1 lot1 values1 way1 trail1 s1) : JS [some (.io ((oL cI.e) s1.1)), some (.dt ((cP (rC cI (r1 (cT (cP (rC cI (r1 cI))))))).e net1)), some (.dt (cI.e start1)), some (.dt (cI.e end1)), some (.dt (cI.e value1)), some (.dt ((cT cI).e lot1)), some (.dt (cI.e values1)), some (.dt ((oL (cP (rC (cT cI) (r1 (cO cI (fun _ => rfl))))).e) s1.2.1)), some (.dt ((oL (cP (rC (cT cI) (r1 (cO cI (fun _ => rfl))))).e) s1.2.2)), some (.dt (cI.e way1)), some (.dt ((cT cI).e trail1)), none, none] b__law_reports_9 (Kn (M := ((List ((List Int) × (Option Int))) × (List ((List Int) × (Option Int)))) × List Int) (K__law_reports) (fun s1 : (List Int) × (List ((List Int) × (Option Int))) × (List ((List Int) × (Option Int))) => [some (.io ((oL cI.e) s1.1)), some (.dt ((cP (rC cI (r1 (cT (cP (rC cI (r1 cI))))))).e net1)), some (.dt (cI.e start1)), some (.dt (cI.e end1)), some (.dt (cI.e value1)), some (.dt ((cT cI).e lot1)), some (.dt (cI.e values1)), some (.dt ((oL (cP (rC (cT cI) (r1 (cO cI (fun _ => rfl))))).e) s1.2.1)), some (.dt ((oL (cP (rC (cT cI) (r1 (cO cI (fun _ => rfl))))).e) s1.2.2)), some (.dt (cI.e way1)), none, none, none]) (T__law_reports_4 value1 lot1 values1 way1 trail1 s1)) := (js_if (Kn (M := ((List ((List Int) × (Option Int))) × (List ((List Int) × (Option Int)))) × List Int) (K__law_reports) (fun s1 : (List Int) × (List ((List Int) × (Option Int))) × (List ((List Int) × (Option Int))) => [some (.io ((oL cI.e) s1.1)), some (.dt ((cP (rC cI (r1 (cT (cP (rC cI (r1 cI))))))).e net1)), some (.dt (cI.e start1)), some (.dt (cI.e end1)), some (.dt (cI.e value1)), some (.dt ((cT cI).e lot1)), some (.dt (cI.e values1)), some (.dt ((oL (cP (rC (cT cI) (r1 (cO cI (fun _ => rfl))))).e) s1.2.1)), some (.dt ((oL (cP (rC (cT cI) (r1 (cO cI (fun _ => rfl))))).e) s1.2.2)), some (.dt (cI.e way1)), none, none, none])) (jt_val (je_op2 (je_lcP cI.e cI.e (c := fun (house1 : Int) => (memB house1 lot1)) (f := fun (house1 : Int) => (1 : Int)) (S := (fun _ => True)) (xs := trail1) (Γx := (fun house1 : Int => [some (.io ((oL cI.e) s1.1)), some (.dt ((cP (rC cI (r1 (cT (cP (rC cI (r1 cI))))))).e net1)), some (.dt (cI.e start1)), some (.dt (cI.e end1)), some (.dt (cI.e value1)), some (.dt ((cT cI).e lot1)), some (.dt (cI.e values1)), some (.dt ((oL (cP (rC (cT cI) (r1 (cO cI (fun _ => rfl))))).e) s1.2.1)), some (.dt ((oL (cP (rC (cT cI) (r1 (cO cI (fun _ => rfl))))).e) s1.2.2)), some (.dt (cI.e way1)), some (.dt ((cT cI).e trail1)), none, some (.dt (cI.e house1))])) (ji_seqT (je_fzF (je_ownB (je_name rfl) rfl ((cT cI).F trail1)) ((cT cI).F trail1))) rfl h.1 (fun _ _ => True.intro) (fun house1 => (jg_set rfl)) (fun house1 hx => (jt_val (je_op2 (je_name rfl) (je_name rfl) rfl rfl (o_in cI (kle rfl) (xs := lot1) seqT house1)) rfl)) (fun house1 hx hc55 => je_c) (fun _ => rfl) (back_any back_nil rfl)) (je_lst ja_nil rfl (sl_le rfl)) rfl rfl (o_eqL cI (kle rfl) ((trail1.filter fun (house1 : Int) => (memB house1 lot1)).map fun (house1 : Int) => (1 : Int)) ([] : List Int))) rfl) (fun hc56 => (js_assoc (js_drop (je_app (cP (rC (cT cI) (r1 (cO cI (fun _ => rfl))))).e Sl.dt w_dt w_dt2 (xs := s1.2.2) (x := (trail1, (some value1))) rfl (je_tup (ja_cons (je_fzF (je_ownB (je_name rfl) rfl ((cT cI).F trail1)) ((cT cI).F trail1)) (ja_cons (je_fzF (je_ownB (je_name rfl) rfl (cI.F value1)) (cI.F value1)) ja_nil)) rfl (sl_le rfl)) rfl (h.2.1 hc56)) (L__law_reports_1 net1 start1 end1 value1 lot1 values1 way1 trail1 s1 (s1.2.2 ++ [(trail1, (some value1))]))))) (fun hc57 => (js_nx (js_asg (je_ifX (cO cI (fun _ => rfl)).e (fun e1 : List Int => [some (.io ((oL cI.e) e1)), some (.dt ((cP (rC cI (r1 (cT (cP (rC cI (r1 cI))))))).e net1)), some (.dt (cI.e start1)), some (.dt (cI.e end1)), some (.dt (cI.e value1)), some (.dt ((cT cI).e lot1)), some (.dt (cI.e values1)), some (.dt ((oL (cP (rC (cT cI) (r1 (cO cI (fun _ => rfl))))).e) s1.2.1)), some (.dt ((oL (cP (rC (cT cI) (r1 (cO cI (fun _ => rfl))))).e) s1.2.2)), some (.dt (cI.e way1)), some (.dt ((cT cI).e trail1)), none, none]) (a := (T__law_pick (T__law_take s1.1 values1).2 ([(none : Option Int), (some ((T__law_take s1.1 values1).1)), (some ((value1 + (1 : Int)) % values1)), (some value1)] : List (Option Int)) none).1) (b := (some ((value1 + (1 : Int)) % values1))) (s1 := (T__law_pick (T__law_take s1.1 values1).2 ([(none : Option Int), (some ((T__law_take s1.1 values1).1)), (some ((value1 + (1 : Int)) % values1)), (some value1)] : List (Option Int)) none).2) (s2 := s1.1) (jt_val (je_op2 (je_name rfl) je_c rfl rfl (o_gt way1 (0 : Int))) rfl) (fun hc58 => (je_callU (ja_cons (je_name rfl) (ja_cons (je_fzN (je_ownV (je_lst (ja_cons je_c (ja_cons (je_callU (ja_cons (je_name rfl) (ja_cons (je_fzF (je_ownB (je_name rfl) rfl (cI.F values1)) (cI.F values1)) ja_nil)) (ArgsE.b rfl rfl (ArgsE.v (cI.F values1) ArgsE.nil)) (L__law_take s1.1 values1 ((h.2.2 hc57).1 hc58).1) (nd_of rfl)) (ja_cons (je_op2 (je_call (ja_cons (je_op2 (je_name rfl) je_c rfl rfl (o_addI value1 (1 : Int))) ja_nil) (rds1 rfl) (o_int (value1 + (1 : Int)))) (je_name rfl) rfl rfl (o_mod (a := (value1 + (1 : Int))) (b := values1) ((h.2.2 hc57).1 hc58).2.1)) (ja_cons (je_fzF (je_ownB (je_name rfl) rfl (cI.F value1)) (cI.F value1)) ja_nil)))) rfl (sl_le rfl))) rfl (frz_oL (cO cI (fun _ => rfl)) ([(none : Option Int), (some ((T__law_take s1.1 values1).1)), (some ((value1 + (1 : Int)) % values1)), (some value1)] : List (Option Int)))) ja_nil)) (ArgsE.b rfl rfl (ArgsE.v ((cL (cO cI (fun _ => rfl))).F ([(none : Option Int), (some ((T__law_take s1.1 values1).1)), (some ((value1 + (1 : Int)) % values1)), (some value1)] : List (Option Int))) ArgsE.nil)) (L__law_pick (cO cI (fun _ => rfl)) none (T__law_take s1.1 values1).2 ([(none : Option Int), (some ((T__law_take s1.1 values1).1)), (some ((value1 + (1 : Int)) % values1)), (some value1)] : List (Option Int)) seqL ((cL (cO cI (fun _ => rfl))).F ([(none : Option Int), (some ((T__law_take s1.1 values1).1)), (some ((value1 + (1 : Int)) % values1)), (some value1)] : List (Option Int))) ((h.2.2 hc57).1 hc58).2.2) (nd_of rfl))) (fun hc59 => (je_op2 (je_call (ja_cons (je_op2 (je_name rfl) je_c rfl rfl (o_addI value1 (1 : Int))) ja_nil) (rds1 rfl) (o_int (value1 + (1 : Int)))) (je_name rfl) rfl rfl (o_mod (a := (value1 + (1 : Int))) (b := values1) ((h.2.2 hc57).2.1 hc59))))) (jg_set rfl) (L__law_reports_3 net1 start1 end1 value1 lot1 values1 way1 trail1 s1 (if (decide ((0 : Int) < way1)) = true then (T__law_pick (T__law_take s1.1 values1).2 ([(none : Option Int), (some ((T__law_take s1.1 values1).1)), (some ((value1 + (1 : Int)) % values1)), (some value1)] : List (Option Int)) none).2 else s1.1) (if (decide ((0 : Int) < way1)) = true then (T__law_pick (T__law_take s1.1 values1).2 ([(none : Option Int), (some ((T__law_take s1.1 values1).1)), (some ((value1 + (1 : Int)) % values1)), (some value1)] : List (Option Int)) none).1 else (some ((value1 + (1 : Int)) % values1))) (h.2.2 hc57).2.2)))))
def T__law_reports_5 (s1 : (List Int) × (List ((List Int) × (Option Int))) × (List ((List Int) × (Option Int)))) : ((List ((List Int) × (Option Int))) × (List ((List Int) × (Option Int)))) × List Int := ((s1.2.1, s1.2.2), s1.1)
theorem L__law_reports_5 (net1 : Int × (List (Int × Int))) (start1 : Int) (end1 : Int) (value1 : Int) (lot1 : List Int) (values1 : Int) (way1 : Int) (s1 : (List Int) × (List ((List Int) × (Option Int))) × (List ((List Int) × (Option Int)))) : JS [some (.io ((oL cI.e) s1.1)), some (.dt ((cP (rC cI (r1 (cT (cP (rC cI (r1 cI))))))).e net1)), some (.dt (cI.e start1)), some (.dt (cI.e end1)), some (.dt (cI.e value1)), some (.dt ((cT cI).e lot1)), some (.dt (cI.e values1)), some (.dt ((oL (cP (rC (cT cI) (r1 (cO cI (fun _ => rfl))))).e) s1.2.1)), some (.dt ((oL (cP (rC (cT cI) (r1 (cO cI (fun _ => rfl))))).e) s1.2.2)), some (.dt (cI.e way1)), none, none, none] b__law_reports_10 (K__law_reports (T__law_reports_5 s1)) := (js_last (js_ret (je_tup (ja_cons (je_call (ja_cons (je_name rfl) ja_nil) (rds1 rfl) (o_tuple (cP (rC (cT cI) (r1 (cO cI (fun _ => rfl))))) (xs := s1.2.1) seqL)) (ja_cons (je_call (ja_cons (je_name rfl) ja_nil) (rds1 rfl) (o_tuple (cP (rC (cT cI) (r1 (cO cI (fun _ => rfl))))) (xs := s1.2.2) seqL)) ja_nil)) rfl (sl_le rfl)) (kf_rt rfl)))
def T__law_reports_6 (net1 : Int × (List (Int × Int))) (start1 : Int) (end1 : Int) (value1 : Int) (lot1 : List Int) (values1 : Int) (box2 : List Int) (told1 : List ((List Int) × (Option Int))) (rows1 : List ((List Int) × (Option Int))) (way1 : Int) : ((List ((List Int) × (Option Int))) × (List ((List Int) × (Option Int)))) × List Int := (T__law_reports_5 (forF (fun (trail1 : List Int) (s1 : (List Int) × (List ((List Int) × (Option Int))) × (List ((List Int) × (Option Int)))) => T__law_reports_4 value1 lot1 values1 way1 trail1 s1) (T__law_trails net1 start1 end1) (box2, told1, rows1)))
def S__law_reports_6 (net1 : Int × (List (Int × Int))) (start1 : Int) (end1 : Int) (value1 : Int) (lot1 : List Int) (values1 : Int) (box2 : List Int) (told1 : List ((List Int) × (Option Int))) (rows1 : List ((List Int) × (Option Int))) (way1 : Int) : Prop := (S__law_trails net1 start1 end1) ∧ (forSF (fun (trail1 : List Int) (s1 : (List Int) × (List ((List Int) × (Option Int))) × (List ((List Int) × (Option Int)))) => S__law_reports_4 value1 lot1 values1 way1 trail1 s1) (fun (trail1 : List Int) (s1 : (List Int) × (List ((List Int) × (Option Int))) × (List ((List Int) × (Option Int)))) => T__law_reports_4 value1 lot1 values1 way1 trail1 s1) (T__law_trails net1 start1 end1) (box2, told1, rows1))
theorem L__law_reports_6 (net1 : Int × (List (Int × Int))) (start1 : Int) (end1 : Int) (value1 : Int) (lot1 : List Int) (values1 : Int) (box2 : List Int) (told1 : List ((List Int) × (Option Int))) (rows1 : List ((List Int) × (Option Int))) (way1 : Int) (h : S__law_reports_6 net1 start1 end1 value1 lot1 values1 box2 told1 rows1 way1) : JS [some (.io ((oL cI.e) box2)), some (.dt ((cP (rC cI (r1 (cT (cP (rC cI (r1 cI))))))).e net1)), some (.dt (cI.e start1)), some (.dt (cI.e end1)), some (.dt (cI.e value1)), some (.dt ((cT cI).e lot1)), some (.dt (cI.e values1)), some (.dt ((oL (cP (rC (cT cI) (r1 (cO cI (fun _ => rfl))))).e) told1)), some (.dt ((oL (cP (rC (cT cI) (r1 (cO cI (fun _ => rfl))))).e) rows1)), some (.dt (cI.e way1)), some .un, some .un, some .un] b__law_reports_11 (K__law_reports (T__law_reports_6 net1 start1 end1 value1 lot1 values1 box2 told1 rows1 way1)) := (js_forF (K__law_reports) (fun s1 : (List Int) × (List ((List Int) × (Option Int))) × (List ((List Int) × (Option Int))) => [some (.io ((oL cI.e) s1.1)), some (.dt ((cP (rC cI (r1 (cT (cP (rC cI (r1 cI))))))).e net1)), some (.dt (cI.e start1)), some (.dt (cI.e end1)), some (.dt (cI.e value1)), some (.dt ((cT cI).e lot1)), some (.dt (cI.e values1)), some (.dt ((oL (cP (rC (cT cI) (r1 (cO cI (fun _ => rfl))))).e) s1.2.1)), some (.dt ((oL (cP (rC (cT cI) (r1 (cO cI (fun _ => rfl))))).e) s1.2.2)), some (.dt (cI.e way1)), none, none, none]) (cT cI).e (b := (fun (trail1 : List Int) (s1 : (List Int) × (List ((List Int) × (Option Int))) × (List ((List Int) × (Option Int)))) => T__law_reports_4 value1 lot1 values1 way1 trail1 s1)) (S := (fun (trail1 : List Int) (s1 : (List Int) × (List ((List Int) × (Option Int))) × (List ((List Int) × (Option Int)))) => S__law_reports_4 value1 lot1 values1 way1 trail1 s1)) (mr := (fun (s1 : (List Int) × (List ((List Int) × (Option Int))) × (List ((List Int) × (Option Int)))) => T__law_reports_5 s1)) (xs := (T__law_trails net1 start1 end1)) (s0 := (box2, told1, rows1)) (ji_seqT (je_fzF (je_ownV (je_callP (ja_cons (je_fzF (je_ownB (je_name rfl) rfl ((cP (rC cI (r1 (cT (cP (rC cI (r1 cI))))))).F net1)) ((cP (rC cI (r1 (cT (cP (rC cI (r1 cI))))))).F net1)) (ja_cons (je_fzF (je_ownB (je_name rfl) rfl (cI.F start1)) (cI.F start1)) (ja_cons (je_fzF (je_ownB (je_name rfl) rfl (cI.F end1)) (cI.F end1)) ja_nil))) (ArgsE.v ((cP (rC cI (r1 (cT (cP (rC cI (r1 cI))))))).F net1) (ArgsE.v (cI.F start1) (ArgsE.v (cI.F end1) ArgsE.nil))) (L__law_trails net1 start1 end1 h.1) rfl)) ((cT (cT cI)).F (T__law_trails net1 start1 end1)))) ⟨rfl, rfl, rfl, rfl, rfl, rfl, rfl, rfl, rfl, rfl, le_un, le_un, le_un, trivial⟩ h.2 (fun trail1 s1 hb => ⟨_, (jg_set rfl), L__law_reports_4 net1 start1 end1 value1 lot1 values1 way1 trail1 s1 hb⟩) (L__law_reports_5 net1 start1 end1 value1 lot1 values1 way1 (forF (fun (trail1 : List Int) (s1 : (List Int) × (List ((List Int) × (Option Int))) × (List ((List Int) × (Option Int)))) => T__law_reports_4 value1 lot1 values1 way1 trail1 s1) (T__law_trails net1 start1 end1) (box2, told1, rows1))))
def T__law_reports (box1 : List Int) (net1 : Int × (List (Int × Int))) (start1 : Int) (end1 : Int) (value1 : Int) (lot1 : List Int) (values1 : Int) : ((List ((List Int) × (Option Int))) × (List ((List Int) × (Option Int)))) × List Int := (T__law_reports_6 net1 start1 end1 value1 lot1 values1 ((T__law_take box1 (4 : Int)).2) ([] : List ((List Int) × (Option Int))) ([] : List ((List Int) × (Option Int))) ((T__law_take box1 (4 : Int)).1))
theorem T__law_reports_eq (box1 : List Int) (net1 : Int × (List (Int × Int))) (start1 : Int) (end1 : Int) (value1 : Int) (lot1 : List Int) (values1 : Int) : T__law_reports box1 net1 start1 end1 value1 lot1 values1 = (T__law_reports_6 net1 start1 end1 value1 lot1 values1 ((T__law_take box1 (4 : Int)).2) ([] : List ((List Int) × (Option Int))) ([] : List ((List Int) × (Option Int))) ((T__law_take box1 (4 : Int)).1)) := rfl
def S__law_reports (box1 : List Int) (net1 : Int × (List (Int × Int))) (start1 : Int) (end1 : Int) (value1 : Int) (lot1 : List Int) (values1 : Int) : Prop := (S__law_take box1 (4 : Int)) ∧ (S__law_reports_6 net1 start1 end1 value1 lot1 values1 ((T__law_take box1 (4 : Int)).2) ([] : List ((List Int) × (Option Int))) ([] : List ((List Int) × (Option Int))) ((T__law_take box1 (4 : Int)).1))
theorem S__law_reports_eq (box1 : List Int) (net1 : Int × (List (Int × Int))) (start1 : Int) (end1 : Int) (value1 : Int) (lot1 : List Int) (values1 : Int) : S__law_reports box1 net1 start1 end1 value1 lot1 values1 = ((S__law_take box1 (4 : Int)) ∧ (S__law_reports_6 net1 start1 end1 value1 lot1 values1 ((T__law_take box1 (4 : Int)).2) ([] : List ((List Int) × (Option Int))) ([] : List ((List Int) × (Option Int))) ((T__law_take box1 (4 : Int)).1))) := rfl
theorem L__law_reports (box1 : List Int) (net1 : Int × (List (Int × Int))) (start1 : Int) (end1 : Int) (value1 : Int) (lot1 : List Int) (values1 : Int) (h : S__law_reports box1 net1 start1 end1 value1 lot1 values1) : F__law_reports [((oL cI.e) box1), ((cP (rC cI (r1 (cT (cP (rC cI (r1 cI))))))).e net1), (cI.e start1), (cI.e end1), (cI.e value1), ((cT cI).e lot1), (cI.e values1)] = .ok ((cP (rC (cT (cP (rC (cT cI) (r1 (cO cI (fun _ => rfl)))))) (r1 (cT (cP (rC (cT cI) (r1 (cO cI (fun _ => rfl))))))))).e ((T__law_reports box1 net1 start1 end1 value1 lot1 values1).1)) [((oL cI.e) (T__law_reports box1 net1 start1 end1 value1 lot1 values1).2), .non, .non, .non, .non, .non, .non] := fn_of (n := 13) (show JS [some (.io ((oL cI.e) box1)), some (.dt ((cP (rC cI (r1 (cT (cP (rC cI (r1 cI))))))).e net1)), some (.dt (cI.e start1)), some (.dt (cI.e end1)), some (.dt (cI.e value1)), some (.dt ((cT cI).e lot1)), some (.dt (cI.e values1)), some .un, some .un, some .un, some .un, some .un, some .un] b__law_reports_12 (K__law_reports (T__law_reports box1 net1 start1 end1 value1 lot1 values1)) from (js_par3 (ja_cons (je_lst ja_nil rfl (sl_le rfl)) (ja_cons (je_lst ja_nil rfl (sl_le rfl)) (ja_cons (je_callU (ja_cons (je_name rfl) (ja_cons je_c ja_nil)) (ArgsE.b rfl rfl (ArgsE.v (cI.F (4 : Int)) ArgsE.nil)) (L__law_take box1 (4 : Int) h.1) (nd_of rfl)) ja_nil))) rfl (jg_set rfl) (jg_set rfl) (jg_set rfl) (L__law_reports_6 net1 start1 end1 value1 lot1 values1 ((T__law_take box1 (4 : Int)).2) ([] : List ((List Int) × (Option Int))) ([] : List ((List Int) × (Option Int))) ((T__law_take box1 (4 : Int)).1) h.2)))
def K_less (m : List Int) : Fl → Rho → Prop := Kf [false, false] ((cT cI).e m) [.non, .non]
def T_less (one1 : List Int) (two1 : List Int) : List Int := ((one1.filter fun (house1 : Int) => (!(memB house1 two1))).map fun (house1 : Int) => house1)
theorem T_less_eq (one1 : List Int) (two1 : List Int) : T_less one1 two1 = ((one1.filter fun (house1 : Int) => (!(memB house1 two1))).map fun (house1 : Int) => house1) := rfl
def S_less (one1 : List Int) (two1 : List Int) : Prop := (one1.length ≤ sizeLine)
theorem S_less_eq (one1 : List Int) (two1 : List Int) : S_less one1 two1 = (one1.length ≤ sizeLine) := rfl
theorem L_less (one1 : List Int) (two1 : List Int) (h : S_less one1 two1) : F_less [((cT cI).e one1), ((cT cI).e two1)] = .ok ((cT cI).e (T_less one1 two1)) [.non, .non] := fn_of (n := 3) (show JS [some (.dt ((cT cI).e one1)), some (.dt ((cT cI).e two1)), some .un] b_less_3 (K_less (T_less one1 two1)) from (js_last (js_ret (je_call (ja_cons (je_lcP cI.e cI.e (c := fun (house1 : Int) => (!(memB house1 two1))) (f := fun (house1 : Int) => house1) (S := (fun _ => True)) (xs := one1) (Γx := (fun house1 : Int => [some (.dt ((cT cI).e one1)), some (.dt ((cT cI).e two1)), some (.dt (cI.e house1))])) (ji_seqT (je_fzF (je_ownB (je_name rfl) rfl ((cT cI).F one1)) ((cT cI).F one1))) rfl h (fun _ _ => True.intro) (fun house1 => (jg_set rfl)) (fun house1 hx => (jt_val (je_op2 (je_name rfl) (je_name rfl) rfl rfl (o_nin cI (kle rfl) (xs := two1) seqT house1)) rfl)) (fun house1 hx hc63 => (je_fzF (je_ownB (je_name rfl) rfl (cI.F house1)) (cI.F house1))) (fun _ => rfl) (back_any back_nil rfl)) ja_nil) (rds1 rfl) (o_tuple cI (xs := ((one1.filter fun (house1 : Int) => (!(memB house1 two1))).map fun (house1 : Int) => house1)) seqL)) (kf_rt rfl))))
def K_shared (m : List Int) : Fl → Rho → Prop := Kf [false, false] ((cT cI).e m) [.non, .non]
def T_shared (one1 : List Int) (two1 : List Int) : List Int := ((one1.filter fun (house1 : Int) => (memB house1 two1)).map fun (house1 : Int) => house1)
theorem T_shared_eq (one1 : List Int) (two1 : List Int) : T_shared one1 two1 = ((one1.filter fun (house1 : Int) => (memB house1 two1)).map fun (house1 : Int) => house1) := rfl
def S_shared (one1 : List Int) (two1 : List Int) : Prop := (one1.length ≤ sizeLine)
theorem S_shared_eq (one1 : List Int) (two1 : List Int) : S_shared one1 two1 = (one1.length ≤ sizeLine) := rfl
theorem L_shared (one1 : List Int) (two1 : List Int) (h : S_shared one1 two1) : F_shared [((cT cI).e one1), ((cT cI).e two1)] = .ok ((cT cI).e (T_shared one1 two1)) [.non, .non] := fn_of (n := 3) (show JS [some (.dt ((cT cI).e one1)), some (.dt ((cT cI).e two1)), some .un] b_shared_3 (K_shared (T_shared one1 two1)) from (js_last (js_ret (je_call (ja_cons (je_lcP cI.e cI.e (c := fun (house1 : Int) => (memB house1 two1)) (f := fun (house1 : Int) => house1) (S := (fun _ => True)) (xs := one1) (Γx := (fun house1 : Int => [some (.dt ((cT cI).e one1)), some (.dt ((cT cI).e two1)), some (.dt (cI.e house1))])) (ji_seqT (je_fzF (je_ownB (je_name rfl) rfl ((cT cI).F one1)) ((cT cI).F one1))) rfl h (fun _ _ => True.intro) (fun house1 => (jg_set rfl)) (fun house1 hx => (jt_val (je_op2 (je_name rfl) (je_name rfl) rfl rfl (o_in cI (kle rfl) (xs := two1) seqT house1)) rfl)) (fun house1 hx hc64 => (je_fzF (je_ownB (je_name rfl) rfl (cI.F house1)) (cI.F house1))) (fun _ => rfl) (back_any back_nil rfl)) ja_nil) (rds1 rfl) (o_tuple cI (xs := ((one1.filter fun (house1 : Int) => (memB house1 two1)).map fun (house1 : Int) => house1)) seqL)) (kf_rt rfl))))
def K_explains (m : Bool) : Fl → Rho → Prop := Kf [false, false, false, false, false, false] (cB.e m) [.non, .non, .non, .non, .non, .non]
def T_explains_1 (reports1 : List ((List Int) × (Option Int))) (value1 : Int) (others1 : List Int) : Bool := (((reports1.filter fun (x1 : (List Int) × (Option Int)) => (decide ((T_shared x1.1 others1) = ([] : List Int)))).map fun (x1 : (List Int) × (Option Int)) => (decide (x1.2 = (some value1)))).all id)
def S_explains_1 (reports1 : List ((List Int) × (Option Int))) (others1 : List Int) : Prop := (reports1.length ≤ sizeLine) ∧ (∀ x1 ∈ reports1, (S_shared x1.1 others1))
theorem L_explains_1 (net1 : Int × (List (Int × Int))) (start1 : Int) (end1 : Int) (reports1 : List ((List Int) × (Option Int))) (value1 : Int) (lot1 : List Int) (others1 : List Int) (h : S_explains_1 reports1 others1) : JS [some (.dt ((cP (rC cI (r1 (cT (cP (rC cI (r1 cI))))))).e net1)), some (.dt (cI.e start1)), some (.dt (cI.e end1)), some (.dt ((cL (cP (rC (cT cI) (r1 (cO cI (fun _ => rfl)))))).e reports1)), some (.dt (cI.e value1)), some (.dt ((cT cI).e lot1)), some (.dt ((cT cI).e others1)), some .un, some .un] b_explains_3 (K_explains (T_explains_1 reports1 value1 others1)) := (js_last (js_ret (je_call (ja_cons (je_lcP (cP (rC (cT cI) (r1 (cO cI (fun _ => rfl))))).e cB.e (c := fun (x1 : (List Int) × (Option Int)) => (decide ((T_shared x1.1 others1) = ([] : List Int)))) (f := fun (x1 : (List Int) × (Option Int)) => (decide (x1.2 = (some value1)))) (S := (fun x1 : (List Int) × (Option Int) => (S_shared x1.1 others1))) (xs := reports1) (Γx := (fun x1 : (List Int) × (Option Int) => [some (.dt ((cP (rC cI (r1 (cT (cP (rC cI (r1 cI))))))).e net1)), some (.dt (cI.e start1)), some (.dt (cI.e end1)), some (.dt ((cL (cP (rC (cT cI) (r1 (cO cI (fun _ => rfl)))))).e reports1)), some (.dt (cI.e value1)), some (.dt ((cT cI).e lot1)), some (.dt ((cT cI).e others1)), some (.dt ((cT cI).e x1.1)), some (.dt ((cO cI (fun _ => rfl)).e x1.2))])) (ji_seqL (je_fzF (je_ownB (je_name rfl) rfl ((cL (cP (rC (cT cI) (r1 (cO cI (fun _ => rfl)))))).F reports1)) ((cL (cP (rC (cT cI) (r1 (cO cI (fun _ => rfl)))))).F reports1))) rfl h.1 h.2 (fun x1 => (jg_tup (.cons (jg_set rfl) (.cons (jg_set rfl) .nil)))) (fun x1 hx => (jt_val (je_op2 (je_callP (ja_cons (je_fzF (je_ownB (je_name rfl) rfl ((cT cI).F x1.1)) ((cT cI).F x1.1)) (ja_cons (je_fzF (je_ownB (je_name rfl) rfl ((cT cI).F others1)) ((cT cI).F others1)) ja_nil)) (ArgsE.v ((cT cI).F x1.1) (ArgsE.v ((cT cI).F others1) ArgsE.nil)) (L_shared x1.1 others1 hx) rfl) (je_tup ja_nil rfl (sl_le rfl)) rfl rfl (o_eq (cT cI) (kle rfl) (T_shared x1.1 others1) ([] : List Int))) rfl)) (fun x1 hx hc65 => (je_op2 (je_name rfl) (je_name rfl) rfl rfl (o_eq (cO cI (fun _ => rfl)) (kle rfl) x1.2 (some value1)))) (fun _ => rfl) (back_any (back_any back_nil rfl) rfl)) ja_nil) (rds1 rfl) (o_all ((reports1.filter fun (x1 : (List Int) × (Option Int)) => (decide ((T_shared x1.1 others1) = ([] : List Int)))).map fun (x1 : (List Int) × (Option Int)) => (decide (x1.2 = (some value1)))))) (kf_rt rfl)))
def T_explains (net1 : Int × (List (Int × Int))) (start1 : Int) (end1 : Int) (reports1 : List ((List Int) × (Option Int))) (value1 : Int) (lot1 : List Int) : Bool := (T_explains_1 reports1 value1 (T_less lot1 ([start1, end1] : List Int)))
theorem T_explains_eq (net1 : Int × (List (Int × Int))) (start1 : Int) (end1 : Int) (reports1 : List ((List Int) × (Option Int))) (value1 : Int) (lot1 : List Int) : T_explains net1 start1 end1 reports1 value1 lot1 = (T_explains_1 reports1 value1 (T_less lot1 ([start1, end1] : List Int))) := rfl
def S_explains (net1 : Int × (List (Int × Int))) (start1 : Int) (end1 : Int) (reports1 : List ((List Int) × (Option Int))) (value1 : Int) (lot1 : List Int) : Prop := (S_less lot1 ([start1, end1] : List Int)) ∧ (S_explains_1 reports1 (T_less lot1 ([start1, end1] : List Int)))
theorem S_explains_eq (net1 : Int × (List (Int × Int))) (start1 : Int) (end1 : Int) (reports1 : List ((List Int) × (Option Int))) (value1 : Int) (lot1 : List Int) : S_explains net1 start1 end1 reports1 value1 lot1 = ((S_less lot1 ([start1, end1] : List Int)) ∧ (S_explains_1 reports1 (T_less lot1 ([start1, end1] : List Int)))) := rfl
theorem L_explains (net1 : Int × (List (Int × Int))) (start1 : Int) (end1 : Int) (reports1 : List ((List Int) × (Option Int))) (value1 : Int) (lot1 : List Int) (h : S_explains net1 start1 end1 reports1 value1 lot1) : F_explains [((cP (rC cI (r1 (cT (cP (rC cI (r1 cI))))))).e net1), (cI.e start1), (cI.e end1), ((cL (cP (rC (cT cI) (r1 (cO cI (fun _ => rfl)))))).e reports1), (cI.e value1), ((cT cI).e lot1)] = .ok (cB.e (T_explains net1 start1 end1 reports1 value1 lot1)) [.non, .non, .non, .non, .non, .non] := fn_of (n := 9) (show JS [some (.dt ((cP (rC cI (r1 (cT (cP (rC cI (r1 cI))))))).e net1)), some (.dt (cI.e start1)), some (.dt (cI.e end1)), some (.dt ((cL (cP (rC (cT cI) (r1 (cO cI (fun _ => rfl)))))).e reports1)), some (.dt (cI.e value1)), some (.dt ((cT cI).e lot1)), some .un, some .un, some .un] b_explains_4 (K_explains (T_explains net1 start1 end1 reports1 value1 lot1)) from (js_asg (je_callP (ja_cons (je_fzF (je_ownB (je_name rfl) rfl ((cT cI).F lot1)) ((cT cI).F lot1)) (ja_cons (je_tup (ja_cons (je_fzF (je_ownB (je_name rfl) rfl (cI.F start1)) (cI.F start1)) (ja_cons (je_fzF (je_ownB (je_name rfl) rfl (cI.F end1)) (cI.F end1)) ja_nil)) rfl (sl_le rfl)) ja_nil)) (ArgsE.v ((cT cI).F lot1) (ArgsE.v ((cT cI).F ([start1, end1] : List Int)) ArgsE.nil)) (L_less lot1 ([start1, end1] : List Int) h.1) rfl) (jg_set rfl) (L_explains_1 net1 start1 end1 reports1 value1 lot1 (T_less lot1 ([start1, end1] : List Int)) h.2)))
def K_fit_values (m : List Int) : Fl → Rho → Prop := Kf [false, false, false, false, false, false] ((cT cI).e m) [.non, .non, .non, .non, .non, .non]
def T_fit_values_1 (net1 : Int × (List (Int × Int))) (liars1 : List (List Int)) (start1 : Int) (end1 : Int) (reports1 : List ((List Int) × (Option Int))) (value1 : Int) (s1 : List Int) : List Int := (if ((liars1.map fun (lot1 : List Int) => (T_explains net1 start1 end1 reports1 value1 lot1)).any id) = true then (s1 ++ [value1]) else s1)
def S_fit_values_1 (net1 : Int × (List (Int × Int))) (liars1 : List (List Int)) (start1 : Int) (end1 : Int) (reports1 : List ((List Int) × (Option Int))) (value1 : Int) (s1 : List Int) : Prop := (liars1.length ≤ sizeLine) ∧ (∀ lot1 ∈ liars1, (S_explains net1 start1 end1 reports1 value1 lot1)) ∧ ((((liars1.map fun (lot1 : List Int) => (T_explains net1 start1 end1 reports1 value1 lot1)).any id)) = true → (s1.length < sizeLine))
theorem L_fit_values_1 (net1 : Int × (List (Int × Int))) (liars1 : List (List Int)) (start1 : Int) (end1 : Int) (values1 : Int) (reports1 : List ((List Int) × (Option Int))) (value1 : Int) (s1 : List Int) (h : S_fit_values_1 net1 liars1 start1 end1 reports1 value1 s1) : JS [some (.dt ((cP (rC cI (r1 (cT (cP (rC cI (r1 cI))))))).e net1)), some (.dt ((cT (cT cI)).e liars1)), some (.dt (cI.e start1)), some (.dt (cI.e end1)), some (.dt (cI.e values1)), some (.dt ((cL (cP (rC (cT cI) (r1 (cO cI (fun _ => rfl)))))).e reports1)), some (.dt ((oL cI.e) s1)), some (.dt (cI.e value1)), none] b_fit_values_3 (Kn (M := List Int) (K_fit_values) (fun s1 : List Int => [some (.dt ((cP (rC cI (r1 (cT (cP (rC cI (r1 cI))))))).e net1)), some (.dt ((cT (cT cI)).e liars1)), some (.dt (cI.e start1)), some (.dt (cI.e end1)), some (.dt (cI.e values1)), some (.dt ((cL (cP (rC (cT cI) (r1 (cO cI (fun _ => rfl)))))).e reports1)), some (.dt ((oL cI.e) s1)), none, none]) (T_fit_values_1 net1 liars1 start1 end1 reports1 value1 s1)) := (js_last (js_if (Kn (M := List Int) (K_fit_values) (fun s1 : List Int => [some (.dt ((cP (rC cI (r1 (cT (cP (rC cI (r1 cI))))))).e net1)), some (.dt ((cT (cT cI)).e liars1)), some (.dt (cI.e start1)), some (.dt (cI.e end1)), some (.dt (cI.e values1)), some (.dt ((cL (cP (rC (cT cI) (r1 (cO cI (fun _ => rfl)))))).e reports1)), some (.dt ((oL cI.e) s1)), none, none])) (jt_val (je_call (ja_cons (je_lcM (cT cI).e cB.e (f := fun (lot1 : List Int) => (T_explains net1 start1 end1 reports1 value1 lot1)) (S := (fun lot1 : List Int => (S_explains net1 start1 end1 reports1 value1 lot1))) (xs := liars1) (Γx := (fun lot1 : List Int => [some (.dt ((cP (rC cI (r1 (cT (cP (rC cI (r1 cI))))))).e net1)), some (.dt ((cT (cT cI)).e liars1)), some (.dt (cI.e start1)), some (.dt (cI.e end1)), some (.dt (cI.e values1)), some (.dt ((cL (cP (rC (cT cI) (r1 (cO cI (fun _ => rfl)))))).e reports1)), some (.dt ((oL cI.e) s1)), some (.dt (cI.e value1)), some (.dt ((cT cI).e lot1))])) (ji_seqT (je_fzF (je_ownB (je_name rfl) rfl ((cT (cT cI)).F liars1)) ((cT (cT cI)).F liars1))) rfl h.1 h.2.1 (fun lot1 => (jg_set rfl)) (fun lot1 hx => (je_callP (ja_cons (je_fzF (je_ownB (je_name rfl) rfl ((cP (rC cI (r1 (cT (cP (rC cI (r1 cI))))))).F net1)) ((cP (rC cI (r1 (cT (cP (rC cI (r1 cI))))))).F net1)) (ja_cons (je_fzF (je_ownB (je_name rfl) rfl (cI.F start1)) (cI.F start1)) (ja_cons (je_fzF (je_ownB (je_name rfl) rfl (cI.F end1)) (cI.F end1)) (ja_cons (je_fzF (je_ownB (je_name rfl) rfl ((cL (cP (rC (cT cI) (r1 (cO cI (fun _ => rfl)))))).F reports1)) ((cL (cP (rC (cT cI) (r1 (cO cI (fun _ => rfl)))))).F reports1)) (ja_cons (je_fzF (je_ownB (je_name rfl) rfl (cI.F value1)) (cI.F value1)) (ja_cons (je_fzF (je_ownB (je_name rfl) rfl ((cT cI).F lot1)) ((cT cI).F lot1)) ja_nil)))))) (ArgsE.v ((cP (rC cI (r1 (cT (cP (rC cI (r1 cI))))))).F net1) (ArgsE.v (cI.F start1) (ArgsE.v (cI.F end1) (ArgsE.v ((cL (cP (rC (cT cI) (r1 (cO cI (fun _ => rfl)))))).F reports1) (ArgsE.v (cI.F value1) (ArgsE.v ((cT cI).F lot1) ArgsE.nil)))))) (L_explains net1 start1 end1 reports1 value1 lot1 hx) rfl)) (fun _ => rfl) (back_any back_nil rfl)) ja_nil) (rds1 rfl) (o_any (liars1.map fun (lot1 : List Int) => (T_explains net1 start1 end1 reports1 value1 lot1)))) rfl) (fun hc66 => (js_drop (je_app cI.e Sl.dt w_dt w_dt2 (xs := s1) (x := value1) rfl (je_fzF (je_ownB (je_name rfl) rfl (cI.F value1)) (cI.F value1)) rfl (h.2.2 hc66)) (js_end (kn_nx ⟨rfl, rfl, rfl, rfl, rfl, rfl, rfl, le_dt, trivial, trivial⟩)))) (fun hc67 => (js_nx (js_end (kn_nx ⟨rfl, rfl, rfl, rfl, rfl, rfl, rfl, le_dt, trivial, trivial⟩))))))
def T_fit_values_2 (s1 : List Int) : List Int := s1
theorem L_fit_values_2 (net1 : Int × (List (Int × Int))) (liars1 : List (List Int)) (start1 : Int) (end1 : Int) (values1 : Int) (reports1 : List ((List Int) × (Option Int))) (s1 : List Int) : JS [some (.dt ((cP (rC cI (r1 (cT (cP (rC cI (r1 cI))))))).e net1)), some (.dt ((cT (cT cI)).e liars1)), some (.dt (cI.e start1)), some (.dt (cI.e end1)), some (.dt (cI.e values1)), some (.dt ((cL (cP (rC (cT cI) (r1 (cO cI (fun _ => rfl)))))).e reports1)), some (.dt ((oL cI.e) s1)), none, none] b_fit_values_4 (K_fit_values (T_fit_values_2 s1)) := (js_last (js_ret (je_call (ja_cons (je_name rfl) ja_nil) (rds1 rfl) (o_tuple cI (xs := s1) seqL)) (kf_rt rfl)))
def T_fit_values_3 (net1 : Int × (List (Int × Int))) (liars1 : List (List Int)) (start1 : Int) (end1 : Int) (values1 : Int) (reports1 : List ((List Int) × (Option Int))) (found1 : List Int) : List Int := (T_fit_values_2 (forF (fun (value1 : Int) (s1 : List Int) => T_fit_values_1 net1 liars1 start1 end1 reports1 value1 s1) (rg values1) found1))
def S_fit_values_3 (net1 : Int × (List (Int × Int))) (liars1 : List (List Int)) (start1 : Int) (end1 : Int) (values1 : Int) (reports1 : List ((List Int) × (Option Int))) (found1 : List Int) : Prop := (Sm values1) ∧ (forSF (fun (value1 : Int) (s1 : List Int) => S_fit_values_1 net1 liars1 start1 end1 reports1 value1 s1) (fun (value1 : Int) (s1 : List Int) => T_fit_values_1 net1 liars1 start1 end1 reports1 value1 s1) (rg values1) found1)
theorem L_fit_values_3 (net1 : Int × (List (Int × Int))) (liars1 : List (List Int)) (start1 : Int) (end1 : Int) (values1 : Int) (reports1 : List ((List Int) × (Option Int))) (found1 : List Int) (h : S_fit_values_3 net1 liars1 start1 end1 values1 reports1 found1) : JS [some (.dt ((cP (rC cI (r1 (cT (cP (rC cI (r1 cI))))))).e net1)), some (.dt ((cT (cT cI)).e liars1)), some (.dt (cI.e start1)), some (.dt (cI.e end1)), some (.dt (cI.e values1)), some (.dt ((cL (cP (rC (cT cI) (r1 (cO cI (fun _ => rfl)))))).e reports1)), some (.dt ((oL cI.e) found1)), some .un, some .un] b_fit_values_5 (K_fit_values (T_fit_values_3 net1 liars1 start1 end1 values1 reports1 found1)) := (js_forF (K_fit_values) (fun s1 : List Int => [some (.dt ((cP (rC cI (r1 (cT (cP (rC cI (r1 cI))))))).e net1)), some (.dt ((cT (cT cI)).e liars1)), some (.dt (cI.e start1)), some (.dt (cI.e end1)), some (.dt (cI.e values1)), some (.dt ((cL (cP (rC (cT cI) (r1 (cO cI (fun _ => rfl)))))).e reports1)), some (.dt ((oL cI.e) s1)), none, none]) cI.e (b := (fun (value1 : Int) (s1 : List Int) => T_fit_values_1 net1 liars1 start1 end1 reports1 value1 s1)) (S := (fun (value1 : Int) (s1 : List Int) => S_fit_values_1 net1 liars1 start1 end1 reports1 value1 s1)) (mr := (fun (s1 : List Int) => T_fit_values_2 s1)) (xs := (rg values1)) (s0 := found1) (ji_rng1 (ja_cons (je_name rfl) ja_nil) (rds1 rfl) h.1) ⟨rfl, rfl, rfl, rfl, rfl, rfl, rfl, le_un, le_un, trivial⟩ h.2 (fun value1 s1 hb => ⟨_, (jg_set rfl), L_fit_values_1 net1 liars1 start1 end1 values1 reports1 value1 s1 hb⟩) (L_fit_values_2 net1 liars1 start1 end1 values1 reports1 (forF (fun (value1 : Int) (s1 : List Int) => T_fit_values_1 net1 liars1 start1 end1 reports1 value1 s1) (rg values1) found1)))
def T_fit_values (net1 : Int × (List (Int × Int))) (liars1 : List (List Int)) (start1 : Int) (end1 : Int) (values1 : Int) (reports1 : List ((List Int) × (Option Int))) : List Int := (T_fit_values_3 net1 liars1 start1 end1 values1 reports1 ([] : List Int))
theorem T_fit_values_eq (net1 : Int × (List (Int × Int))) (liars1 : List (List Int)) (start1 : Int) (end1 : Int) (values1 : Int) (reports1 : List ((List Int) × (Option Int))) : T_fit_values net1 liars1 start1 end1 values1 reports1 = (T_fit_values_3 net1 liars1 start1 end1 values1 reports1 ([] : List Int)) := rfl
def S_fit_values (net1 : Int × (List (Int × Int))) (liars1 : List (List Int)) (start1 : Int) (end1 : Int) (values1 : Int) (reports1 : List ((List Int) × (Option Int))) : Prop := (S_fit_values_3 net1 liars1 start1 end1 values1 reports1 ([] : List Int))
theorem S_fit_values_eq (net1 : Int × (List (Int × Int))) (liars1 : List (List Int)) (start1 : Int) (end1 : Int) (values1 : Int) (reports1 : List ((List Int) × (Option Int))) : S_fit_values net1 liars1 start1 end1 values1 reports1 = (S_fit_values_3 net1 liars1 start1 end1 values1 reports1 ([] : List Int)) := rfl
theorem L_fit_values (net1 : Int × (List (Int × Int))) (liars1 : List (List Int)) (start1 : Int) (end1 : Int) (values1 : Int) (reports1 : List ((List Int) × (Option Int))) (h : S_fit_values net1 liars1 start1 end1 values1 reports1) : F_fit_values [((cP (rC cI (r1 (cT (cP (rC cI (r1 cI))))))).e net1), ((cT (cT cI)).e liars1), (cI.e start1), (cI.e end1), (cI.e values1), ((cL (cP (rC (cT cI) (r1 (cO cI (fun _ => rfl)))))).e reports1)] = .ok ((cT cI).e (T_fit_values net1 liars1 start1 end1 values1 reports1)) [.non, .non, .non, .non, .non, .non] := fn_of (n := 9) (show JS [some (.dt ((cP (rC cI (r1 (cT (cP (rC cI (r1 cI))))))).e net1)), some (.dt ((cT (cT cI)).e liars1)), some (.dt (cI.e start1)), some (.dt (cI.e end1)), some (.dt (cI.e values1)), some (.dt ((cL (cP (rC (cT cI) (r1 (cO cI (fun _ => rfl)))))).e reports1)), some .un, some .un, some .un] b_fit_values_6 (K_fit_values (T_fit_values net1 liars1 start1 end1 values1 reports1)) from (js_asg (je_lst ja_nil rfl (sl_le rfl)) (jg_set rfl) (L_fit_values_3 net1 liars1 start1 end1 values1 reports1 ([] : List Int) h)))
def K_hop_answer (m : Option Int) : Fl → Rho → Prop := Kf [false, false, false, false, false, false, false] ((cO cI (fun _ => rfl)).e m) [.non, .non, .non, .non, .non, .non, .non]
def T_hop_answer_1 (fit1 : List Int) : Option Int := (if (decide ((fit1.length : Int) = (1 : Int))) = true then (some (fit1.getD 0 0)) else (none : Option Int))
def S_hop_answer_1 (fit1 : List Int) : Prop := (((decide ((fit1.length : Int) = (1 : Int)))) = true → (0 < fit1.length))
theorem L_hop_answer_1 (net1 : Int × (List (Int × Int))) (liars1 : List (List Int)) (start1 : Int) (end1 : Int) (values1 : Int) (most1 : Int) (reports1 : List ((List Int) × (Option Int))) (rows1 : List ((List Int) × (Option Int))) (fit1 : List Int) (h : S_hop_answer_1 fit1) : JS [some (.dt ((cP (rC cI (r1 (cT (cP (rC cI (r1 cI))))))).e net1)), some (.dt ((cT (cT cI)).e liars1)), some (.dt (cI.e start1)), some (.dt (cI.e end1)), some (.dt (cI.e values1)), some (.dt (cI.e most1)), some (.dt ((cT (cP (rC (cT cI) (r1 (cO cI (fun _ => rfl)))))).e reports1)), some (.dt ((cL (cP (rC (cT cI) (r1 (cO cI (fun _ => rfl)))))).e rows1)), some (.dt ((cT cI).e fit1)), none] b_hop_answer_3 (K_hop_answer (T_hop_answer_1 fit1)) := (js_last (js_ret (je_if (cO cI (fun _ => rfl)).e (a := (some (fit1.getD 0 0))) (b := (none : Option Int)) (jt_val (je_op2 (je_call (ja_cons (je_name rfl) ja_nil) (rds1 rfl) (o_len cI.e (xs := fit1) seqT)) je_c rfl rfl (o_eq cI (kle rfl) (fit1.length : Int) (1 : Int))) rfl) (fun hc69 => (je_op2 (je_name rfl) je_c rfl rfl (o_ixN cI (xs := fit1) seqT (n := 0) 0 (h hc69)))) (fun hc70 => je_c)) (kf_rt rfl)))
def T_hop_answer_2 (net1 : Int × (List (Int × Int))) (liars1 : List (List Int)) (start1 : Int) (end1 : Int) (values1 : Int) (rows1 : List ((List Int) × (Option Int))) : Option Int := (T_hop_answer_1 (T_fit_values net1 liars1 start1 end1 values1 rows1))
def S_hop_answer_2 (net1 : Int × (List (Int × Int))) (liars1 : List (List Int)) (start1 : Int) (end1 : Int) (values1 : Int) (rows1 : List ((List Int) × (Option Int))) : Prop := (S_fit_values net1 liars1 start1 end1 values1 rows1) ∧ (S_hop_answer_1 (T_fit_values net1 liars1 start1 end1 values1 rows1))
theorem L_hop_answer_2 (net1 : Int × (List (Int × Int))) (liars1 : List (List Int)) (start1 : Int) (end1 : Int) (values1 : Int) (most1 : Int) (reports1 : List ((List Int) × (Option Int))) (rows1 : List ((List Int) × (Option Int))) (h : S_hop_answer_2 net1 liars1 start1 end1 values1 rows1) : JS [some (.dt ((cP (rC cI (r1 (cT (cP (rC cI (r1 cI))))))).e net1)), some (.dt ((cT (cT cI)).e liars1)), some (.dt (cI.e start1)), some (.dt (cI.e end1)), some (.dt (cI.e values1)), some (.dt (cI.e most1)), some (.dt ((cT (cP (rC (cT cI) (r1 (cO cI (fun _ => rfl)))))).e reports1)), some (.dt ((cL (cP (rC (cT cI) (r1 (cO cI (fun _ => rfl)))))).e rows1)), some .un, none] b_hop_answer_4 (K_hop_answer (T_hop_answer_2 net1 liars1 start1 end1 values1 rows1)) := (js_asg (je_callP (ja_cons (je_fzF (je_ownB (je_name rfl) rfl ((cP (rC cI (r1 (cT (cP (rC cI (r1 cI))))))).F net1)) ((cP (rC cI (r1 (cT (cP (rC cI (r1 cI))))))).F net1)) (ja_cons (je_fzF (je_ownB (je_name rfl) rfl ((cT (cT cI)).F liars1)) ((cT (cT cI)).F liars1)) (ja_cons (je_fzF (je_ownB (je_name rfl) rfl (cI.F start1)) (cI.F start1)) (ja_cons (je_fzF (je_ownB (je_name rfl) rfl (cI.F end1)) (cI.F end1)) (ja_cons (je_fzF (je_ownB (je_name rfl) rfl (cI.F values1)) (cI.F values1)) (ja_cons (je_fzF (je_ownB (je_name rfl) rfl ((cL (cP (rC (cT cI) (r1 (cO cI (fun _ => rfl)))))).F rows1)) ((cL (cP (rC (cT cI) (r1 (cO cI (fun _ => rfl)))))).F rows1)) ja_nil)))))) (ArgsE.v ((cP (rC cI (r1 (cT (cP (rC cI (r1 cI))))))).F net1) (ArgsE.v ((cT (cT cI)).F liars1) (ArgsE.v (cI.F start1) (ArgsE.v (cI.F end1) (ArgsE.v (cI.F values1) (ArgsE.v ((cL (cP (rC (cT cI) (r1 (cO cI (fun _ => rfl)))))).F rows1) ArgsE.nil)))))) (L_fit_values net1 liars1 start1 end1 values1 rows1 h.1) rfl) (jg_set rfl) (L_hop_answer_1 net1 liars1 start1 end1 values1 most1 reports1 rows1 (T_fit_values net1 liars1 start1 end1 values1 rows1) h.2))
def T_hop_answer (net1 : Int × (List (Int × Int))) (liars1 : List (List Int)) (start1 : Int) (end1 : Int) (values1 : Int) (most1 : Int) (reports1 : List ((List Int) × (Option Int))) : Option Int := (T_hop_answer_2 net1 liars1 start1 end1 values1 ((reports1.filter fun (row1 : (List Int) × (Option Int)) => (decide ((row1.1.length : Int) ≤ (most1 + (1 : Int))))).map fun (row1 : (List Int) × (Option Int)) => row1))
theorem T_hop_answer_eq (net1 : Int × (List (Int × Int))) (liars1 : List (List Int)) (start1 : Int) (end1 : Int) (values1 : Int) (most1 : Int) (reports1 : List ((List Int) × (Option Int))) : T_hop_answer net1 liars1 start1 end1 values1 most1 reports1 = (T_hop_answer_2 net1 liars1 start1 end1 values1 ((reports1.filter fun (row1 : (List Int) × (Option Int)) => (decide ((row1.1.length : Int) ≤ (most1 + (1 : Int))))).map fun (row1 : (List Int) × (Option Int)) => row1)) := rfl
def S_hop_answer (net1 : Int × (List (Int × Int))) (liars1 : List (List Int)) (start1 : Int) (end1 : Int) (values1 : Int) (most1 : Int) (reports1 : List ((List Int) × (Option Int))) : Prop := (reports1.length ≤ sizeLine) ∧ (S_hop_answer_2 net1 liars1 start1 end1 values1 ((reports1.filter fun (row1 : (List Int) × (Option Int)) => (decide ((row1.1.length : Int) ≤ (most1 + (1 : Int))))).map fun (row1 : (List Int) × (Option Int)) => row1))
theorem S_hop_answer_eq (net1 : Int × (List (Int × Int))) (liars1 : List (List Int)) (start1 : Int) (end1 : Int) (values1 : Int) (most1 : Int) (reports1 : List ((List Int) × (Option Int))) : S_hop_answer net1 liars1 start1 end1 values1 most1 reports1 = ((reports1.length ≤ sizeLine) ∧ (S_hop_answer_2 net1 liars1 start1 end1 values1 ((reports1.filter fun (row1 : (List Int) × (Option Int)) => (decide ((row1.1.length : Int) ≤ (most1 + (1 : Int))))).map fun (row1 : (List Int) × (Option Int)) => row1))) := rfl
theorem L_hop_answer (net1 : Int × (List (Int × Int))) (liars1 : List (List Int)) (start1 : Int) (end1 : Int) (values1 : Int) (most1 : Int) (reports1 : List ((List Int) × (Option Int))) (h : S_hop_answer net1 liars1 start1 end1 values1 most1 reports1) : F_hop_answer [((cP (rC cI (r1 (cT (cP (rC cI (r1 cI))))))).e net1), ((cT (cT cI)).e liars1), (cI.e start1), (cI.e end1), (cI.e values1), (cI.e most1), ((cT (cP (rC (cT cI) (r1 (cO cI (fun _ => rfl)))))).e reports1)] = .ok ((cO cI (fun _ => rfl)).e (T_hop_answer net1 liars1 start1 end1 values1 most1 reports1)) [.non, .non, .non, .non, .non, .non, .non] := fn_of (n := 10) (show JS [some (.dt ((cP (rC cI (r1 (cT (cP (rC cI (r1 cI))))))).e net1)), some (.dt ((cT (cT cI)).e liars1)), some (.dt (cI.e start1)), some (.dt (cI.e end1)), some (.dt (cI.e values1)), some (.dt (cI.e most1)), some (.dt ((cT (cP (rC (cT cI) (r1 (cO cI (fun _ => rfl)))))).e reports1)), some .un, some .un, some .un] b_hop_answer_5 (K_hop_answer (T_hop_answer net1 liars1 start1 end1 values1 most1 reports1)) from (js_assoc (js_asg (je_lcP (cP (rC (cT cI) (r1 (cO cI (fun _ => rfl))))).e (cP (rC (cT cI) (r1 (cO cI (fun _ => rfl))))).e (c := fun (row1 : (List Int) × (Option Int)) => (decide ((row1.1.length : Int) ≤ (most1 + (1 : Int))))) (f := fun (row1 : (List Int) × (Option Int)) => row1) (S := (fun _ => True)) (xs := reports1) (Γx := (fun row1 : (List Int) × (Option Int) => [some (.dt ((cP (rC cI (r1 (cT (cP (rC cI (r1 cI))))))).e net1)), some (.dt ((cT (cT cI)).e liars1)), some (.dt (cI.e start1)), some (.dt (cI.e end1)), some (.dt (cI.e values1)), some (.dt (cI.e most1)), some (.dt ((cT (cP (rC (cT cI) (r1 (cO cI (fun _ => rfl)))))).e reports1)), some .un, some .un, some (.dt ((cP (rC (cT cI) (r1 (cO cI (fun _ => rfl))))).e row1))])) (ji_seqT (je_fzF (je_ownB (je_name rfl) rfl ((cT (cP (rC (cT cI) (r1 (cO cI (fun _ => rfl)))))).F reports1)) ((cT (cP (rC (cT cI) (r1 (cO cI (fun _ => rfl)))))).F reports1))) rfl h.1 (fun _ _ => True.intro) (fun row1 => (jg_set rfl)) (fun row1 hx => (jt_val (je_op2 (je_call (ja_cons (je_op2 (je_name rfl) je_c rfl rfl (o_ixR 0 rfl ((cT cI).F row1.1))) ja_nil) (rds1 rfl) (o_len cI.e (xs := row1.1) seqT)) (je_op2 (je_name rfl) je_c rfl rfl (o_addI most1 (1 : Int))) rfl rfl (o_le (row1.1.length : Int) (most1 + (1 : Int)))) rfl)) (fun row1 hx hc68 => (je_fzF (je_ownB (je_name rfl) rfl ((cP (rC (cT cI) (r1 (cO cI (fun _ => rfl))))).F row1)) ((cP (rC (cT cI) (r1 (cO cI (fun _ => rfl))))).F row1))) (fun _ => rfl) (back_any back_nil rfl)) (jg_set rfl) (js_frz rfl (frz_oL (cP (rC (cT cI) (r1 (cO cI (fun _ => rfl))))) ((reports1.filter fun (row1 : (List Int) × (Option Int)) => (decide ((row1.1.length : Int) ≤ (most1 + (1 : Int))))).map fun (row1 : (List Int) × (Option Int)) => row1)) (L_hop_answer_2 net1 liars1 start1 end1 values1 most1 reports1 ((reports1.filter fun (row1 : (List Int) × (Option Int)) => (decide ((row1.1.length : Int) ≤ (most1 + (1 : Int))))).map fun (row1 : (List Int) × (Option Int)) => row1) h.2)))))
def S__law_like {α : Type} (c : Cd α) (a b : α) : Prop := a = b ∧ D.sz (c.e a) < 1000000 ∧ D.tp 60 (c.e a) = true
theorem L__law_like {α : Type} (c : Cd α) (a b : α) (h : S__law_like c a b) : F__law_like [c.e a, c.e b] = .ok (cB.e true) [.non, .non] := by
  obtain ⟨rfl, h1, h2⟩ := h
  exact like_gen (c.e a) h2 h1
def K_law (m : Bool) : Fl → Rho → Prop := Kf [false] (cB.e m) [.non]
def T_law_1 (net2 : Int × (List (Int × Int))) : (Int × (List (Int × Int))) × (List Int) := (net2, ([(1 : Int)] : List Int))
theorem L_law_1 (script1 : List Int) (k1 : Int) (box3 : List Int) (liars1 : List (List Int)) (start1 : Int) (end1 : Int) (some1 : List Int) (net2 : Int × (List (Int × Int))) : JS [some (.dt ((cL cI).e script1)), some (.dt (cI.e k1)), some (.dt ((oL cI.e) box3)), some (.dt ((cP (rC cI (r1 (cT (cP (rC cI (r1 cI))))))).e net2)), some (.dt ((cT (cT cI)).e liars1)), some (.dt (cI.e start1)), some (.dt (cI.e end1)), some (.dt ((cL cI).e some1)), none, none, none, none, none, none, none, none, none, none, none] b_law_3 (Kj (fun j1 : (Int × (List (Int × Int))) × (List Int) => [some (.dt ((cL cI).e script1)), some (.dt (cI.e k1)), some (.dt ((oL cI.e) box3)), some (.dt ((cP (rC cI (r1 (cT (cP (rC cI (r1 cI))))))).e j1.1)), some (.dt ((cT (cT cI)).e liars1)), some (.dt (cI.e start1)), some (.dt (cI.e end1)), some (.dt ((cL cI).e j1.2)), none, none, none, none, none, none, none, none, none, none, none]) (T_law_1 net2)) := (js_last (js_asg (je_fzN (je_ownV (je_lst (ja_cons je_c ja_nil) rfl (sl_le rfl))) rfl (frz_oL cI ([(1 : Int)] : List Int))) (jg_set rfl) (js_end (kj_of ⟨rfl, rfl, rfl, rfl, rfl, rfl, rfl, rfl, trivial, trivial, trivial, trivial, trivial, trivial, trivial, trivial, trivial, trivial, trivial, trivial⟩))))
def T_law_2  : Fo Unit (Fo (List Int) (Fo Unit Bool)) := (if (!true) = true then (.rt (.rt (.rt false))) else (.nx ()))
def S_law_2 (liars1 : List (List Int)) (start1 : Int) (end1 : Int) (j1 : (Int × (List (Int × Int))) × (List Int)) (most2 : Int) (values1 : Int) (value1 : Int) (rows1 : List ((List Int) × (Option Int))) : Prop := (S_hop_answer j1.1 liars1 start1 end1 values1 most2 rows1) ∧ (S__law_like (cO cI (fun _ => rfl)) (T_hop_answer j1.1 liars1 start1 end1 values1 most2 rows1) (some value1))
theorem L_law_2 (script1 : List Int) (k1 : Int) (s1 : Unit) (liars1 : List (List Int)) (start1 : Int) (end1 : Int) (j1 : (Int × (List (Int × Int))) × (List Int)) (most2 : Int) (turn1 : Int) (s2 : List Int) (lot1 : List Int) (values1 : Int) (value1 : Int) (box8 : List Int) (told1 : List ((List Int) × (Option Int))) (reports1 : List ((List Int) × (Option Int))) (wrong1 : List ((List Int) × (Option Int))) (rows1 : List ((List Int) × (Option Int))) (s3 : Unit) (h : S_law_2 liars1 start1 end1 j1 most2 values1 value1 rows1) : JS [some (.dt ((cL cI).e script1)), some (.dt (cI.e k1)), some (.dt ((oL cI.e) box8)), some (.dt ((cP (rC cI (r1 (cT (cP (rC cI (r1 cI))))))).e j1.1)), some (.dt ((cT (cT cI)).e liars1)), some (.dt (cI.e start1)), some (.dt (cI.e end1)), some (.dt ((cL cI).e j1.2)), some (.dt (cI.e most2)), some (.dt (cI.e turn1)), some (.dt ((cT cI).e lot1)), some (.dt (cI.e values1)), some (.dt (cI.e value1)), some (.dt ((cT (cP (rC (cT cI) (r1 (cO cI (fun _ => rfl)))))).e told1)), some (.dt ((cT (cP (rC (cT cI) (r1 (cO cI (fun _ => rfl)))))).e reports1)), some (.dt ((cT (cP (rC (cT cI) (r1 (cO cI (fun _ => rfl)))))).e wrong1)), some (.dt ((cT (cP (rC (cT cI) (r1 (cO cI (fun _ => rfl)))))).e rows1)), none, none] b_law_7 (Kl (Kl (Kl (K_law) (fun s1 : Unit => [some (.dt ((cL cI).e script1)), none, none, none, none, none, none, none, none, none, none, none, none, none, none, none, none, none, none])) (fun s2 : List Int => [some (.dt ((cL cI).e script1)), some (.dt (cI.e k1)), some (.dt ((oL cI.e) s2)), some (.dt ((cP (rC cI (r1 (cT (cP (rC cI (r1 cI))))))).e j1.1)), some (.dt ((cT (cT cI)).e liars1)), some (.dt (cI.e start1)), some (.dt (cI.e end1)), some (.dt ((cL cI).e j1.2)), some (.dt (cI.e most2)), none, none, none, none, none, none, none, none, none, none])) (fun s3 : Unit => [some (.dt ((cL cI).e script1)), some (.dt (cI.e k1)), some (.dt ((oL cI.e) box8)), some (.dt ((cP (rC cI (r1 (cT (cP (rC cI (r1 cI))))))).e j1.1)), some (.dt ((cT (cT cI)).e liars1)), some (.dt (cI.e start1)), some (.dt (cI.e end1)), some (.dt ((cL cI).e j1.2)), some (.dt (cI.e most2)), some (.dt (cI.e turn1)), some (.dt ((cT cI).e lot1)), some (.dt (cI.e values1)), some (.dt (cI.e value1)), some (.dt ((cT (cP (rC (cT cI) (r1 (cO cI (fun _ => rfl)))))).e told1)), some (.dt ((cT (cP (rC (cT cI) (r1 (cO cI (fun _ => rfl)))))).e reports1)), some (.dt ((cT (cP (rC (cT cI) (r1 (cO cI (fun _ => rfl)))))).e wrong1)), none, none, none]) (T_law_2 )) := (js_last (js_if (Kl (Kl (Kl (K_law) (fun s1 : Unit => [some (.dt ((cL cI).e script1)), none, none, none, none, none, none, none, none, none, none, none, none, none, none, none, none, none, none])) (fun s2 : List Int => [some (.dt ((cL cI).e script1)), some (.dt (cI.e k1)), some (.dt ((oL cI.e) s2)), some (.dt ((cP (rC cI (r1 (cT (cP (rC cI (r1 cI))))))).e j1.1)), some (.dt ((cT (cT cI)).e liars1)), some (.dt (cI.e start1)), some (.dt (cI.e end1)), some (.dt ((cL cI).e j1.2)), some (.dt (cI.e most2)), none, none, none, none, none, none, none, none, none, none])) (fun s3 : Unit => [some (.dt ((cL cI).e script1)), some (.dt (cI.e k1)), some (.dt ((oL cI.e) box8)), some (.dt ((cP (rC cI (r1 (cT (cP (rC cI (r1 cI))))))).e j1.1)), some (.dt ((cT (cT cI)).e liars1)), some (.dt (cI.e start1)), some (.dt (cI.e end1)), some (.dt ((cL cI).e j1.2)), some (.dt (cI.e most2)), some (.dt (cI.e turn1)), some (.dt ((cT cI).e lot1)), some (.dt (cI.e values1)), some (.dt (cI.e value1)), some (.dt ((cT (cP (rC (cT cI) (r1 (cO cI (fun _ => rfl)))))).e told1)), some (.dt ((cT (cP (rC (cT cI) (r1 (cO cI (fun _ => rfl)))))).e reports1)), some (.dt ((cT (cP (rC (cT cI) (r1 (cO cI (fun _ => rfl)))))).e wrong1)), none, none, none])) (jt_not (jt_val (je_callP (ja_cons (je_callP (ja_app (ja_cons (je_fzF (je_ownB (je_name rfl) rfl ((cP (rC cI (r1 (cT (cP (rC cI (r1 cI))))))).F j1.1)) ((cP (rC cI (r1 (cT (cP (rC cI (r1 cI))))))).F j1.1)) (ja_cons (je_fzF (je_ownB (je_name rfl) rfl ((cT (cT cI)).F liars1)) ((cT (cT cI)).F liars1)) (ja_cons (je_fzF (je_ownB (je_name rfl) rfl (cI.F start1)) (cI.F start1)) (ja_cons (je_fzF (je_ownB (je_name rfl) rfl (cI.F end1)) (cI.F end1)) (ja_cons (je_fzF (je_ownB (je_name rfl) rfl (cI.F values1)) (cI.F values1)) ja_nil))))) (ja_cons (je_fzF (je_ownB (je_name rfl) rfl (cI.F most2)) (cI.F most2)) (ja_cons (je_fzF (je_ownB (je_name rfl) rfl ((cT (cP (rC (cT cI) (r1 (cO cI (fun _ => rfl)))))).F rows1)) ((cT (cP (rC (cT cI) (r1 (cO cI (fun _ => rfl)))))).F rows1)) ja_nil))) (ArgsE.v ((cP (rC cI (r1 (cT (cP (rC cI (r1 cI))))))).F j1.1) (ArgsE.v ((cT (cT cI)).F liars1) (ArgsE.v (cI.F start1) (ArgsE.v (cI.F end1) (ArgsE.v (cI.F values1) (ArgsE.v (cI.F most2) (ArgsE.v ((cT (cP (rC (cT cI) (r1 (cO cI (fun _ => rfl)))))).F rows1) ArgsE.nil))))))) (L_hop_answer j1.1 liars1 start1 end1 values1 most2 rows1 h.1) rfl) (ja_cons (je_fzF (je_ownB (je_name rfl) rfl (cI.F value1)) (cI.F value1)) ja_nil)) (ArgsE.v ((cO cI (fun _ => rfl)).F (T_hop_answer j1.1 liars1 start1 end1 values1 most2 rows1)) (ArgsE.v ((cO cI (fun _ => rfl)).F (some value1)) ArgsE.nil)) (L__law_like (cO cI (fun _ => rfl)) (T_hop_answer j1.1 liars1 start1 end1 values1 most2 rows1) (some value1) h.2) rfl) rfl)) (fun hc76 => (js_ret je_c (kl_rt (kl_rt (kl_rt (kf_rt rfl)))))) (fun hc77 => (js_nx (js_end (kl_nx ⟨rfl, rfl, rfl, rfl, rfl, rfl, rfl, rfl, rfl, rfl, rfl, rfl, rfl, rfl, rfl, rfl, le_dt, trivial, trivial, trivial⟩))))))
def T_law_3 (box8 : List Int) : Fo (List Int) (Fo Unit Bool) := (.nx box8)
theorem L_law_3 (script1 : List Int) (k1 : Int) (s1 : Unit) (liars1 : List (List Int)) (start1 : Int) (end1 : Int) (j1 : (Int × (List (Int × Int))) × (List Int)) (most2 : Int) (turn1 : Int) (s2 : List Int) (lot1 : List Int) (values1 : Int) (value1 : Int) (box8 : List Int) (told1 : List ((List Int) × (Option Int))) (reports1 : List ((List Int) × (Option Int))) (wrong1 : List ((List Int) × (Option Int))) : JS [some (.dt ((cL cI).e script1)), some (.dt (cI.e k1)), some (.dt ((oL cI.e) box8)), some (.dt ((cP (rC cI (r1 (cT (cP (rC cI (r1 cI))))))).e j1.1)), some (.dt ((cT (cT cI)).e liars1)), some (.dt (cI.e start1)), some (.dt (cI.e end1)), some (.dt ((cL cI).e j1.2)), some (.dt (cI.e most2)), some (.dt (cI.e turn1)), some (.dt ((cT cI).e lot1)), some (.dt (cI.e values1)), some (.dt (cI.e value1)), some (.dt ((cT (cP (rC (cT cI) (r1 (cO cI (fun _ => rfl)))))).e told1)), some (.dt ((cT (cP (rC (cT cI) (r1 (cO cI (fun _ => rfl)))))).e reports1)), some (.dt ((cT (cP (rC (cT cI) (r1 (cO cI (fun _ => rfl)))))).e wrong1)), none, none, none] fNx (Kl (Kl (K_law) (fun s1 : Unit => [some (.dt ((cL cI).e script1)), none, none, none, none, none, none, none, none, none, none, none, none, none, none, none, none, none, none])) (fun s2 : List Int => [some (.dt ((cL cI).e script1)), some (.dt (cI.e k1)), some (.dt ((oL cI.e) s2)), some (.dt ((cP (rC cI (r1 (cT (cP (rC cI (r1 cI))))))).e j1.1)), some (.dt ((cT (cT cI)).e liars1)), some (.dt (cI.e start1)), some (.dt (cI.e end1)), some (.dt ((cL cI).e j1.2)), some (.dt (cI.e most2)), none, none, none, none, none, none, none, none, none, none]) (T_law_3 box8)) := (js_end (kl_nx ⟨rfl, rfl, rfl, rfl, rfl, rfl, rfl, rfl, rfl, le_dt, le_dt, le_dt, le_dt, le_dt, le_dt, le_dt, trivial, trivial, trivial, trivial⟩))
def T_law_4 (box8 : List Int) (reports1 : List ((List Int) × (Option Int))) (wrong1 : List ((List Int) × (Option Int))) : Fo (List Int) (Fo Unit Bool) := ((forB (fun (rows1 : List ((List Int) × (Option Int))) (s3 : Unit) => T_law_2 ) ([reports1, wrong1] : List (List ((List Int) × (Option Int)))) ()).to (fun (s3 : Unit) => T_law_3 box8))
def S_law_4 (liars1 : List (List Int)) (start1 : Int) (end1 : Int) (j1 : (Int × (List (Int × Int))) × (List Int)) (most2 : Int) (values1 : Int) (value1 : Int) (reports1 : List ((List Int) × (Option Int))) (wrong1 : List ((List Int) × (Option Int))) : Prop := (forS (fun (rows1 : List ((List Int) × (Option Int))) (s3 : Unit) => S_law_2 liars1 start1 end1 j1 most2 values1 value1 rows1) (fun (rows1 : List ((List Int) × (Option Int))) (s3 : Unit) => T_law_2 ) ([reports1, wrong1] : List (List ((List Int) × (Option Int)))) ())
theorem L_law_4 (script1 : List Int) (k1 : Int) (s1 : Unit) (liars1 : List (List Int)) (start1 : Int) (end1 : Int) (j1 : (Int × (List (Int × Int))) × (List Int)) (most2 : Int) (turn1 : Int) (s2 : List Int) (lot1 : List Int) (values1 : Int) (value1 : Int) (box8 : List Int) (told1 : List ((List Int) × (Option Int))) (reports1 : List ((List Int) × (Option Int))) (wrong1 : List ((List Int) × (Option Int))) (h : S_law_4 liars1 start1 end1 j1 most2 values1 value1 reports1 wrong1) : JS [some (.dt ((cL cI).e script1)), some (.dt (cI.e k1)), some (.dt ((oL cI.e) box8)), some (.dt ((cP (rC cI (r1 (cT (cP (rC cI (r1 cI))))))).e j1.1)), some (.dt ((cT (cT cI)).e liars1)), some (.dt (cI.e start1)), some (.dt (cI.e end1)), some (.dt ((cL cI).e j1.2)), some (.dt (cI.e most2)), some (.dt (cI.e turn1)), some (.dt ((cT cI).e lot1)), some (.dt (cI.e values1)), some (.dt (cI.e value1)), some (.dt ((cT (cP (rC (cT cI) (r1 (cO cI (fun _ => rfl)))))).e told1)), some (.dt ((cT (cP (rC (cT cI) (r1 (cO cI (fun _ => rfl)))))).e reports1)), some (.dt ((cT (cP (rC (cT cI) (r1 (cO cI (fun _ => rfl)))))).e wrong1)), none, none, none] b_law_8 (Kl (Kl (K_law) (fun s1 : Unit => [some (.dt ((cL cI).e script1)), none, none, none, none, none, none, none, none, none, none, none, none, none, none, none, none, none, none])) (fun s2 : List Int => [some (.dt ((cL cI).e script1)), some (.dt (cI.e k1)), some (.dt ((oL cI.e) s2)), some (.dt ((cP (rC cI (r1 (cT (cP (rC cI (r1 cI))))))).e j1.1)), some (.dt ((cT (cT cI)).e liars1)), some (.dt (cI.e start1)), some (.dt (cI.e end1)), some (.dt ((cL cI).e j1.2)), some (.dt (cI.e most2)), none, none, none, none, none, none, none, none, none, none]) (T_law_4 box8 reports1 wrong1)) := (js_last (js_for (Kl (Kl (K_law) (fun s1 : Unit => [some (.dt ((cL cI).e script1)), none, none, none, none, none, none, none, none, none, none, none, none, none, none, none, none, none, none])) (fun s2 : List Int => [some (.dt ((cL cI).e script1)), some (.dt (cI.e k1)), some (.dt ((oL cI.e) s2)), some (.dt ((cP (rC cI (r1 (cT (cP (rC cI (r1 cI))))))).e j1.1)), some (.dt ((cT (cT cI)).e liars1)), some (.dt (cI.e start1)), some (.dt (cI.e end1)), some (.dt ((cL cI).e j1.2)), some (.dt (cI.e most2)), none, none, none, none, none, none, none, none, none, none])) (fun s3 : Unit => [some (.dt ((cL cI).e script1)), some (.dt (cI.e k1)), some (.dt ((oL cI.e) box8)), some (.dt ((cP (rC cI (r1 (cT (cP (rC cI (r1 cI))))))).e j1.1)), some (.dt ((cT (cT cI)).e liars1)), some (.dt (cI.e start1)), some (.dt (cI.e end1)), some (.dt ((cL cI).e j1.2)), some (.dt (cI.e most2)), some (.dt (cI.e turn1)), some (.dt ((cT cI).e lot1)), some (.dt (cI.e values1)), some (.dt (cI.e value1)), some (.dt ((cT (cP (rC (cT cI) (r1 (cO cI (fun _ => rfl)))))).e told1)), some (.dt ((cT (cP (rC (cT cI) (r1 (cO cI (fun _ => rfl)))))).e reports1)), some (.dt ((cT (cP (rC (cT cI) (r1 (cO cI (fun _ => rfl)))))).e wrong1)), none, none, none]) (cT (cP (rC (cT cI) (r1 (cO cI (fun _ => rfl)))))).e (b := (fun (rows1 : List ((List Int) × (Option Int))) (s3 : Unit) => T_law_2 )) (S := (fun (rows1 : List ((List Int) × (Option Int))) (s3 : Unit) => S_law_2 liars1 start1 end1 j1 most2 values1 value1 rows1)) (Sr := (fun _ => True)) (mr := (fun (s3 : Unit) => T_law_3 box8)) (xs := ([reports1, wrong1] : List (List ((List Int) × (Option Int))))) (s0 := ()) (ji_seqT (je_fzF (je_ownV (je_tup (ja_cons (je_fzF (je_ownB (je_name rfl) rfl ((cT (cP (rC (cT cI) (r1 (cO cI (fun _ => rfl)))))).F reports1)) ((cT (cP (rC (cT cI) (r1 (cO cI (fun _ => rfl)))))).F reports1)) (ja_cons (je_fzF (je_ownB (je_name rfl) rfl ((cT (cP (rC (cT cI) (r1 (cO cI (fun _ => rfl)))))).F wrong1)) ((cT (cP (rC (cT cI) (r1 (cO cI (fun _ => rfl)))))).F wrong1)) ja_nil)) rfl (sl_le rfl))) ((cT (cT (cP (rC (cT cI) (r1 (cO cI (fun _ => rfl))))))).F ([reports1, wrong1] : List (List ((List Int) × (Option Int))))))) ⟨rfl, rfl, rfl, rfl, rfl, rfl, rfl, rfl, rfl, rfl, rfl, rfl, rfl, rfl, rfl, rfl, trivial, trivial, trivial, trivial⟩ h (fun rows1 s3 hb => ⟨_, (jg_set rfl), L_law_2 script1 k1 s1 liars1 start1 end1 j1 most2 turn1 s2 lot1 values1 value1 box8 told1 reports1 wrong1 rows1 s3 hb⟩) all_T (fun s3 _ => L_law_3 script1 k1 s1 liars1 start1 end1 j1 most2 turn1 s2 lot1 values1 value1 box8 told1 reports1 wrong1)))
def T_law_5 (most2 : Int) (values1 : Int) (value1 : Int) (box8 : List Int) (reports1 : List ((List Int) × (Option Int))) : Fo (List Int) (Fo Unit Bool) := (T_law_4 box8 reports1 (reports1.map fun (x1 : (List Int) × (Option Int)) => (x1.1, (if (decide ((x1.1.length : Int) ≤ (most2 + (1 : Int)))) = true then x1.2 else (some ((value1 + (1 : Int)) % values1))))))
def S_law_5 (liars1 : List (List Int)) (start1 : Int) (end1 : Int) (j1 : (Int × (List (Int × Int))) × (List Int)) (most2 : Int) (values1 : Int) (value1 : Int) (reports1 : List ((List Int) × (Option Int))) : Prop := (reports1.length ≤ sizeLine) ∧ (∀ x1 ∈ reports1, (((decide ((x1.1.length : Int) ≤ (most2 + (1 : Int))))) = false → (0 < values1))) ∧ (S_law_4 liars1 start1 end1 j1 most2 values1 value1 reports1 (reports1.map fun (x1 : (List Int) × (Option Int)) => (x1.1, (if (decide ((x1.1.length : Int) ≤ (most2 + (1 : Int)))) = true then x1.2 else (some ((value1 + (1 : Int)) % values1))))))
theorem L_law_5 (script1 : List Int) (k1 : Int) (s1 : Unit) (liars1 : List (List Int)) (start1 : Int) (end1 : Int) (j1 : (Int × (List (Int × Int))) × (List Int)) (most2 : Int) (turn1 : Int) (s2 : List Int) (lot1 : List Int) (values1 : Int) (value1 : Int) (box8 : List Int) (told1 : List ((List Int) × (Option Int))) (reports1 : List ((List Int) × (Option Int))) (h : S_law_5 liars1 start1 end1 j1 most2 values1 value1 reports1) : JS [some (.dt ((cL cI).e script1)), some (.dt (cI.e k1)), some (.dt ((oL cI.e) box8)), some (.dt ((cP (rC cI (r1 (cT (cP (rC cI (r1 cI))))))).e j1.1)), some (.dt ((cT (cT cI)).e liars1)), some (.dt (cI.e start1)), some (.dt (cI.e end1)), some (.dt ((cL cI).e j1.2)), some (.dt (cI.e most2)), some (.dt (cI.e turn1)), some (.dt ((cT cI).e lot1)), some (.dt (cI.e values1)), some (.dt (cI.e value1)), some (.dt ((cT (cP (rC (cT cI) (r1 (cO cI (fun _ => rfl)))))).e told1)), some (.dt ((cT (cP (rC (cT cI) (r1 (cO cI (fun _ => rfl)))))).e reports1)), none, none, none, none] b_law_9 (Kl (Kl (K_law) (fun s1 : Unit => [some (.dt ((cL cI).e script1)), none, none, none, none, none, none, none, none, none, none, none, none, none, none, none, none, none, none])) (fun s2 : List Int => [some (.dt ((cL cI).e script1)), some (.dt (cI.e k1)), some (.dt ((oL cI.e) s2)), some (.dt ((cP (rC cI (r1 (cT (cP (rC cI (r1 cI))))))).e j1.1)), some (.dt ((cT (cT cI)).e liars1)), some (.dt (cI.e start1)), some (.dt (cI.e end1)), some (.dt ((cL cI).e j1.2)), some (.dt (cI.e most2)), none, none, none, none, none, none, none, none, none, none]) (T_law_5 most2 values1 value1 box8 reports1)) := (js_asg (je_call (ja_cons (je_lcM (cP (rC (cT cI) (r1 (cO cI (fun _ => rfl))))).e (cP (rC (cT cI) (r1 (cO cI (fun _ => rfl))))).e (f := fun (x1 : (List Int) × (Option Int)) => (x1.1, (if (decide ((x1.1.length : Int) ≤ (most2 + (1 : Int)))) = true then x1.2 else (some ((value1 + (1 : Int)) % values1))))) (S := (fun x1 : (List Int) × (Option Int) => (((decide ((x1.1.length : Int) ≤ (most2 + (1 : Int))))) = false → (0 < values1)))) (xs := reports1) (Γx := (fun x1 : (List Int) × (Option Int) => [some (.dt ((cL cI).e script1)), some (.dt (cI.e k1)), some (.dt ((oL cI.e) box8)), some (.dt ((cP (rC cI (r1 (cT (cP (rC cI (r1 cI))))))).e j1.1)), some (.dt ((cT (cT cI)).e liars1)), some (.dt (cI.e start1)), some (.dt (cI.e end1)), some (.dt ((cL cI).e j1.2)), some (.dt (cI.e most2)), some (.dt (cI.e turn1)), some (.dt ((cT cI).e lot1)), some (.dt (cI.e values1)), some (.dt (cI.e value1)), some (.dt ((cT (cP (rC (cT cI) (r1 (cO cI (fun _ => rfl)))))).e told1)), some (.dt ((cT (cP (rC (cT cI) (r1 (cO cI (fun _ => rfl)))))).e reports1)), none, none, some (.dt ((cT cI).e x1.1)), some (.dt ((cO cI (fun _ => rfl)).e x1.2))])) (ji_seqT (je_fzF (je_ownB (je_name rfl) rfl ((cT (cP (rC (cT cI) (r1 (cO cI (fun _ => rfl)))))).F reports1)) ((cT (cP (rC (cT cI) (r1 (cO cI (fun _ => rfl)))))).F reports1))) rfl h.1 h.2.1 (fun x1 => (jg_tup (.cons (jg_set rfl) (.cons (jg_set rfl) .nil)))) (fun x1 hx => (je_tup (ja_cons (je_fzF (je_ownB (je_name rfl) rfl ((cT cI).F x1.1)) ((cT cI).F x1.1)) (ja_cons (je_if (cO cI (fun _ => rfl)).e (a := x1.2) (b := (some ((value1 + (1 : Int)) % values1))) (jt_val (je_op2 (je_call (ja_cons (je_name rfl) ja_nil) (rds1 rfl) (o_len cI.e (xs := x1.1) seqT)) (je_op2 (je_name rfl) je_c rfl rfl (o_addI most2 (1 : Int))) rfl rfl (o_le (x1.1.length : Int) (most2 + (1 : Int)))) rfl) (fun hc74 => (je_fzF (je_ownB (je_name rfl) rfl ((cO cI (fun _ => rfl)).F x1.2)) ((cO cI (fun _ => rfl)).F x1.2))) (fun hc75 => (je_op2 (je_call (ja_cons (je_op2 (je_name rfl) je_c rfl rfl (o_addI value1 (1 : Int))) ja_nil) (rds1 rfl) (o_int (value1 + (1 : Int)))) (je_name rfl) rfl rfl (o_mod (a := (value1 + (1 : Int))) (b := values1) (hx hc75))))) ja_nil)) rfl (sl_le rfl))) (fun _ => rfl) (back_any (back_any back_nil rfl) rfl)) ja_nil) (rds1 rfl) (o_tuple (cP (rC (cT cI) (r1 (cO cI (fun _ => rfl))))) (xs := (reports1.map fun (x1 : (List Int) × (Option Int)) => (x1.1, (if (decide ((x1.1.length : Int) ≤ (most2 + (1 : Int)))) = true then x1.2 else (some ((value1 + (1 : Int)) % values1)))))) seqL)) (jg_set rfl) (L_law_4 script1 k1 s1 liars1 start1 end1 j1 most2 turn1 s2 lot1 values1 value1 box8 told1 reports1 (reports1.map fun (x1 : (List Int) × (Option Int)) => (x1.1, (if (decide ((x1.1.length : Int) ≤ (most2 + (1 : Int)))) = true then x1.2 else (some ((value1 + (1 : Int)) % values1))))) h.2.2))
def T_law_6 (start1 : Int) (end1 : Int) (j1 : (Int × (List (Int × Int))) × (List Int)) (most2 : Int) (lot1 : List Int) (values1 : Int) (box7 : List Int) (value1 : Int) : Fo (List Int) (Fo Unit Bool) := (T_law_5 most2 values1 value1 ((T__law_reports box7 j1.1 start1 end1 value1 lot1 values1).2) ((T__law_reports box7 j1.1 start1 end1 value1 lot1 values1).1.2))
def S_law_6 (liars1 : List (List Int)) (start1 : Int) (end1 : Int) (j1 : (Int × (List (Int × Int))) × (List Int)) (most2 : Int) (lot1 : List Int) (values1 : Int) (box7 : List Int) (value1 : Int) : Prop := (S__law_reports box7 j1.1 start1 end1 value1 lot1 values1) ∧ (S_law_5 liars1 start1 end1 j1 most2 values1 value1 ((T__law_reports box7 j1.1 start1 end1 value1 lot1 values1).1.2))
theorem L_law_6 (script1 : List Int) (k1 : Int) (s1 : Unit) (liars1 : List (List Int)) (start1 : Int) (end1 : Int) (j1 : (Int × (List (Int × Int))) × (List Int)) (most2 : Int) (turn1 : Int) (s2 : List Int) (lot1 : List Int) (values1 : Int) (box7 : List Int) (value1 : Int) (h : S_law_6 liars1 start1 end1 j1 most2 lot1 values1 box7 value1) : JS [some (.dt ((cL cI).e script1)), some (.dt (cI.e k1)), some (.dt ((oL cI.e) box7)), some (.dt ((cP (rC cI (r1 (cT (cP (rC cI (r1 cI))))))).e j1.1)), some (.dt ((cT (cT cI)).e liars1)), some (.dt (cI.e start1)), some (.dt (cI.e end1)), some (.dt ((cL cI).e j1.2)), some (.dt (cI.e most2)), some (.dt (cI.e turn1)), some (.dt ((cT cI).e lot1)), some (.dt (cI.e values1)), some (.dt (cI.e value1)), none, none, none, none, none, none] b_law_10 (Kl (Kl (K_law) (fun s1 : Unit => [some (.dt ((cL cI).e script1)), none, none, none, none, none, none, none, none, none, none, none, none, none, none, none, none, none, none])) (fun s2 : List Int => [some (.dt ((cL cI).e script1)), some (.dt (cI.e k1)), some (.dt ((oL cI.e) s2)), some (.dt ((cP (rC cI (r1 (cT (cP (rC cI (r1 cI))))))).e j1.1)), some (.dt ((cT (cT cI)).e liars1)), some (.dt (cI.e start1)), some (.dt (cI.e end1)), some (.dt ((cL cI).e j1.2)), some (.dt (cI.e most2)), none, none, none, none, none, none, none, none, none, none]) (T_law_6 start1 end1 j1 most2 lot1 values1 box7 value1)) := (js_asg (je_callU (ja_cons (je_name rfl) (ja_cons (je_fzF (je_ownB (je_name rfl) rfl ((cP (rC cI (r1 (cT (cP (rC cI (r1 cI))))))).F j1.1)) ((cP (rC cI (r1 (cT (cP (rC cI (r1 cI))))))).F j1.1)) (ja_cons (je_fzF (je_ownB (je_name rfl) rfl (cI.F start1)) (cI.F start1)) (ja_cons (je_fzF (je_ownB (je_name rfl) rfl (cI.F end1)) (cI.F end1)) (ja_cons (je_fzF (je_ownB (je_name rfl) rfl (cI.F value1)) (cI.F value1)) (ja_cons (je_fzF (je_ownB (je_name rfl) rfl ((cT cI).F lot1)) ((cT cI).F lot1)) (ja_cons (je_fzF (je_ownB (je_name rfl) rfl (cI.F values1)) (cI.F values1)) ja_nil))))))) (ArgsE.b rfl rfl (ArgsE.v ((cP (rC cI (r1 (cT (cP (rC cI (r1 cI))))))).F j1.1) (ArgsE.v (cI.F start1) (ArgsE.v (cI.F end1) (ArgsE.v (cI.F value1) (ArgsE.v ((cT cI).F lot1) (ArgsE.v (cI.F values1) ArgsE.nil))))))) (L__law_reports box7 j1.1 start1 end1 value1 lot1 values1 h.1) (nd_of rfl)) (jg_tup (.cons (jg_set rfl) (.cons (jg_set rfl) .nil))) (L_law_5 script1 k1 s1 liars1 start1 end1 j1 most2 turn1 s2 lot1 values1 value1 ((T__law_reports box7 j1.1 start1 end1 value1 lot1 values1).2) ((T__law_reports box7 j1.1 start1 end1 value1 lot1 values1).1.1) ((T__law_reports box7 j1.1 start1 end1 value1 lot1 values1).1.2) h.2))
def T_law_7 (start1 : Int) (end1 : Int) (j1 : (Int × (List (Int × Int))) × (List Int)) (most2 : Int) (lot1 : List Int) (box6 : List Int) (values1 : Int) : Fo (List Int) (Fo Unit Bool) := (T_law_6 start1 end1 j1 most2 lot1 values1 ((T__law_take box6 values1).2) ((T__law_take box6 values1).1))
def S_law_7 (liars1 : List (List Int)) (start1 : Int) (end1 : Int) (j1 : (Int × (List (Int × Int))) × (List Int)) (most2 : Int) (lot1 : List Int) (box6 : List Int) (values1 : Int) : Prop := (S__law_take box6 values1) ∧ (S_law_6 liars1 start1 end1 j1 most2 lot1 values1 ((T__law_take box6 values1).2) ((T__law_take box6 values1).1))
theorem L_law_7 (script1 : List Int) (k1 : Int) (s1 : Unit) (liars1 : List (List Int)) (start1 : Int) (end1 : Int) (j1 : (Int × (List (Int × Int))) × (List Int)) (most2 : Int) (turn1 : Int) (s2 : List Int) (lot1 : List Int) (box6 : List Int) (values1 : Int) (h : S_law_7 liars1 start1 end1 j1 most2 lot1 box6 values1) : JS [some (.dt ((cL cI).e script1)), some (.dt (cI.e k1)), some (.dt ((oL cI.e) box6)), some (.dt ((cP (rC cI (r1 (cT (cP (rC cI (r1 cI))))))).e j1.1)), some (.dt ((cT (cT cI)).e liars1)), some (.dt (cI.e start1)), some (.dt (cI.e end1)), some (.dt ((cL cI).e j1.2)), some (.dt (cI.e most2)), some (.dt (cI.e turn1)), some (.dt ((cT cI).e lot1)), some (.dt (cI.e values1)), none, none, none, none, none, none, none] b_law_11 (Kl (Kl (K_law) (fun s1 : Unit => [some (.dt ((cL cI).e script1)), none, none, none, none, none, none, none, none, none, none, none, none, none, none, none, none, none, none])) (fun s2 : List Int => [some (.dt ((cL cI).e script1)), some (.dt (cI.e k1)), some (.dt ((oL cI.e) s2)), some (.dt ((cP (rC cI (r1 (cT (cP (rC cI (r1 cI))))))).e j1.1)), some (.dt ((cT (cT cI)).e liars1)), some (.dt (cI.e start1)), some (.dt (cI.e end1)), some (.dt ((cL cI).e j1.2)), some (.dt (cI.e most2)), none, none, none, none, none, none, none, none, none, none]) (T_law_7 start1 end1 j1 most2 lot1 box6 values1)) := (js_asg (je_callU (ja_cons (je_name rfl) (ja_cons (je_fzF (je_ownB (je_name rfl) rfl (cI.F values1)) (cI.F values1)) ja_nil)) (ArgsE.b rfl rfl (ArgsE.v (cI.F values1) ArgsE.nil)) (L__law_take box6 values1 h.1) (nd_of rfl)) (jg_set rfl) (L_law_6 script1 k1 s1 liars1 start1 end1 j1 most2 turn1 s2 lot1 values1 ((T__law_take box6 values1).2) ((T__law_take box6 values1).1) h.2))
def T_law_8 (start1 : Int) (end1 : Int) (j1 : (Int × (List (Int × Int))) × (List Int)) (most2 : Int) (box5 : List Int) (lot1 : List Int) : Fo (List Int) (Fo Unit Bool) := (T_law_7 start1 end1 j1 most2 lot1 ((T__law_take box5 (3 : Int)).2) ((2 : Int) + (T__law_take box5 (3 : Int)).1))
def S_law_8 (liars1 : List (List Int)) (start1 : Int) (end1 : Int) (j1 : (Int × (List (Int × Int))) × (List Int)) (most2 : Int) (box5 : List Int) (lot1 : List Int) : Prop := (S__law_take box5 (3 : Int)) ∧ (S_law_7 liars1 start1 end1 j1 most2 lot1 ((T__law_take box5 (3 : Int)).2) ((2 : Int) + (T__law_take box5 (3 : Int)).1))
theorem L_law_8 (script1 : List Int) (k1 : Int) (s1 : Unit) (liars1 : List (List Int)) (start1 : Int) (end1 : Int) (j1 : (Int × (List (Int × Int))) × (List Int)) (most2 : Int) (turn1 : Int) (s2 : List Int) (box5 : List Int) (lot1 : List Int) (h : S_law_8 liars1 start1 end1 j1 most2 box5 lot1) : JS [some (.dt ((cL cI).e script1)), some (.dt (cI.e k1)), some (.dt ((oL cI.e) box5)), some (.dt ((cP (rC cI (r1 (cT (cP (rC cI (r1 cI))))))).e j1.1)), some (.dt ((cT (cT cI)).e liars1)), some (.dt (cI.e start1)), some (.dt (cI.e end1)), some (.dt ((cL cI).e j1.2)), some (.dt (cI.e most2)), some (.dt (cI.e turn1)), some (.dt ((cT cI).e lot1)), none, none, none, none, none, none, none, none] b_law_12 (Kl (Kl (K_law) (fun s1 : Unit => [some (.dt ((cL cI).e script1)), none, none, none, none, none, none, none, none, none, none, none, none, none, none, none, none, none, none])) (fun s2 : List Int => [some (.dt ((cL cI).e script1)), some (.dt (cI.e k1)), some (.dt ((oL cI.e) s2)), some (.dt ((cP (rC cI (r1 (cT (cP (rC cI (r1 cI))))))).e j1.1)), some (.dt ((cT (cT cI)).e liars1)), some (.dt (cI.e start1)), some (.dt (cI.e end1)), some (.dt ((cL cI).e j1.2)), some (.dt (cI.e most2)), none, none, none, none, none, none, none, none, none, none]) (T_law_8 start1 end1 j1 most2 box5 lot1)) := (js_asg (je_op2 je_c (je_callU (ja_cons (je_name rfl) (ja_cons je_c ja_nil)) (ArgsE.b rfl rfl (ArgsE.v (cI.F (3 : Int)) ArgsE.nil)) (L__law_take box5 (3 : Int) h.1) (nd_of rfl)) rfl rfl (o_addI (2 : Int) (T__law_take box5 (3 : Int)).1)) (jg_set rfl) (L_law_7 script1 k1 s1 liars1 start1 end1 j1 most2 turn1 s2 lot1 ((T__law_take box5 (3 : Int)).2) ((2 : Int) + (T__law_take box5 (3 : Int)).1) h.2))
def T_law_9 (liars1 : List (List Int)) (start1 : Int) (end1 : Int) (j1 : (Int × (List (Int × Int))) × (List Int)) (most2 : Int) (s2 : List Int) : Fo (List Int) (Fo Unit Bool) := (T_law_8 start1 end1 j1 most2 ((T__law_pick (T__law_drawn_lot ((T__law_pick (T__law_pick s2 liars1 []).2 liars1 []).2) ((T__law_pick (T__law_pick s2 liars1 []).2 liars1 []).1) (2 : Int)).2 ([(T__law_pick s2 liars1 []).1, (T__law_drawn_lot ((T__law_pick (T__law_pick s2 liars1 []).2 liars1 []).2) ((T__law_pick (T__law_pick s2 liars1 []).2 liars1 []).1) (2 : Int)).1] : List (List Int)) []).2) (T__law_less ((T__law_pick (T__law_drawn_lot ((T__law_pick (T__law_pick s2 liars1 []).2 liars1 []).2) ((T__law_pick (T__law_pick s2 liars1 []).2 liars1 []).1) (2 : Int)).2 ([(T__law_pick s2 liars1 []).1, (T__law_drawn_lot ((T__law_pick (T__law_pick s2 liars1 []).2 liars1 []).2) ((T__law_pick (T__law_pick s2 liars1 []).2 liars1 []).1) (2 : Int)).1] : List (List Int)) []).1) ([start1, end1] : List Int)))
def S_law_9 (liars1 : List (List Int)) (start1 : Int) (end1 : Int) (j1 : (Int × (List (Int × Int))) × (List Int)) (most2 : Int) (s2 : List Int) : Prop := (S__law_pick s2 liars1) ∧ (S__law_pick (T__law_pick s2 liars1 []).2 liars1) ∧ (S__law_drawn_lot ((T__law_pick (T__law_pick s2 liars1 []).2 liars1 []).2) ((T__law_pick (T__law_pick s2 liars1 []).2 liars1 []).1) (2 : Int)) ∧ (S__law_pick (T__law_drawn_lot ((T__law_pick (T__law_pick s2 liars1 []).2 liars1 []).2) ((T__law_pick (T__law_pick s2 liars1 []).2 liars1 []).1) (2 : Int)).2 ([(T__law_pick s2 liars1 []).1, (T__law_drawn_lot ((T__law_pick (T__law_pick s2 liars1 []).2 liars1 []).2) ((T__law_pick (T__law_pick s2 liars1 []).2 liars1 []).1) (2 : Int)).1] : List (List Int))) ∧ (S__law_less ((T__law_pick (T__law_drawn_lot ((T__law_pick (T__law_pick s2 liars1 []).2 liars1 []).2) ((T__law_pick (T__law_pick s2 liars1 []).2 liars1 []).1) (2 : Int)).2 ([(T__law_pick s2 liars1 []).1, (T__law_drawn_lot ((T__law_pick (T__law_pick s2 liars1 []).2 liars1 []).2) ((T__law_pick (T__law_pick s2 liars1 []).2 liars1 []).1) (2 : Int)).1] : List (List Int)) []).1) ([start1, end1] : List Int)) ∧ (S_law_8 liars1 start1 end1 j1 most2 ((T__law_pick (T__law_drawn_lot ((T__law_pick (T__law_pick s2 liars1 []).2 liars1 []).2) ((T__law_pick (T__law_pick s2 liars1 []).2 liars1 []).1) (2 : Int)).2 ([(T__law_pick s2 liars1 []).1, (T__law_drawn_lot ((T__law_pick (T__law_pick s2 liars1 []).2 liars1 []).2) ((T__law_pick (T__law_pick s2 liars1 []).2 liars1 []).1) (2 : Int)).1] : List (List Int)) []).2) (T__law_less ((T__law_pick (T__law_drawn_lot ((T__law_pick (T__law_pick s2 liars1 []).2 liars1 []).2) ((T__law_pick (T__law_pick s2 liars1 []).2 liars1 []).1) (2 : Int)).2 ([(T__law_pick s2 liars1 []).1, (T__law_drawn_lot ((T__law_pick (T__law_pick s2 liars1 []).2 liars1 []).2) ((T__law_pick (T__law_pick s2 liars1 []).2 liars1 []).1) (2 : Int)).1] : List (List Int)) []).1) ([start1, end1] : List Int)))
theorem L_law_9 (script1 : List Int) (k1 : Int) (s1 : Unit) (liars1 : List (List Int)) (start1 : Int) (end1 : Int) (j1 : (Int × (List (Int × Int))) × (List Int)) (most2 : Int) (turn1 : Int) (s2 : List Int) (h : S_law_9 liars1 start1 end1 j1 most2 s2) : JS [some (.dt ((cL cI).e script1)), some (.dt (cI.e k1)), some (.dt ((oL cI.e) s2)), some (.dt ((cP (rC cI (r1 (cT (cP (rC cI (r1 cI))))))).e j1.1)), some (.dt ((cT (cT cI)).e liars1)), some (.dt (cI.e start1)), some (.dt (cI.e end1)), some (.dt ((cL cI).e j1.2)), some (.dt (cI.e most2)), some (.dt (cI.e turn1)), none, none, none, none, none, none, none, none, none] b_law_13 (Kl (Kl (K_law) (fun s1 : Unit => [some (.dt ((cL cI).e script1)), none, none, none, none, none, none, none, none, none, none, none, none, none, none, none, none, none, none])) (fun s2 : List Int => [some (.dt ((cL cI).e script1)), some (.dt (cI.e k1)), some (.dt ((oL cI.e) s2)), some (.dt ((cP (rC cI (r1 (cT (cP (rC cI (r1 cI))))))).e j1.1)), some (.dt ((cT (cT cI)).e liars1)), some (.dt (cI.e start1)), some (.dt (cI.e end1)), some (.dt ((cL cI).e j1.2)), some (.dt (cI.e most2)), none, none, none, none, none, none, none, none, none, none]) (T_law_9 liars1 start1 end1 j1 most2 s2)) := (js_asg (je_callP (ja_cons (je_callU (ja_cons (je_name rfl) (ja_cons (je_fzN (je_ownV (je_lst (ja_cons (je_callU (ja_cons (je_name rfl) (ja_cons (je_fzF (je_ownB (je_name rfl) rfl ((cT (cT cI)).F liars1)) ((cT (cT cI)).F liars1)) ja_nil)) (ArgsE.b rfl rfl (ArgsE.v ((cT (cT cI)).F liars1) ArgsE.nil)) (L__law_pick (cT cI) [] s2 liars1 seqT ((cT (cT cI)).F liars1) h.1) (nd_of rfl)) (ja_cons (je_callU (ja_cons (je_name rfl) (ja_cons (je_callU (ja_cons (je_name rfl) (ja_cons (je_fzF (je_ownB (je_name rfl) rfl ((cT (cT cI)).F liars1)) ((cT (cT cI)).F liars1)) ja_nil)) (ArgsE.b rfl rfl (ArgsE.v ((cT (cT cI)).F liars1) ArgsE.nil)) (L__law_pick (cT cI) [] (T__law_pick s2 liars1 []).2 liars1 seqT ((cT (cT cI)).F liars1) h.2.1) (nd_of rfl)) (ja_cons je_c ja_nil))) (ArgsE.b rfl rfl (ArgsE.v ((cT cI).F ((T__law_pick (T__law_pick s2 liars1 []).2 liars1 []).1)) (ArgsE.v (cI.F (2 : Int)) ArgsE.nil))) (L__law_drawn_lot ((T__law_pick (T__law_pick s2 liars1 []).2 liars1 []).2) ((T__law_pick (T__law_pick s2 liars1 []).2 liars1 []).1) (2 : Int) h.2.2.1) (nd_of rfl)) ja_nil)) rfl (sl_le rfl))) rfl (frz_oL (cT cI) ([(T__law_pick s2 liars1 []).1, (T__law_drawn_lot ((T__law_pick (T__law_pick s2 liars1 []).2 liars1 []).2) ((T__law_pick (T__law_pick s2 liars1 []).2 liars1 []).1) (2 : Int)).1] : List (List Int)))) ja_nil)) (ArgsE.b rfl rfl (ArgsE.v ((cL (cT cI)).F ([(T__law_pick s2 liars1 []).1, (T__law_drawn_lot ((T__law_pick (T__law_pick s2 liars1 []).2 liars1 []).2) ((T__law_pick (T__law_pick s2 liars1 []).2 liars1 []).1) (2 : Int)).1] : List (List Int))) ArgsE.nil)) (L__law_pick (cT cI) [] (T__law_drawn_lot ((T__law_pick (T__law_pick s2 liars1 []).2 liars1 []).2) ((T__law_pick (T__law_pick s2 liars1 []).2 liars1 []).1) (2 : Int)).2 ([(T__law_pick s2 liars1 []).1, (T__law_drawn_lot ((T__law_pick (T__law_pick s2 liars1 []).2 liars1 []).2) ((T__law_pick (T__law_pick s2 liars1 []).2 liars1 []).1) (2 : Int)).1] : List (List Int)) seqL ((cL (cT cI)).F ([(T__law_pick s2 liars1 []).1, (T__law_drawn_lot ((T__law_pick (T__law_pick s2 liars1 []).2 liars1 []).2) ((T__law_pick (T__law_pick s2 liars1 []).2 liars1 []).1) (2 : Int)).1] : List (List Int))) h.2.2.2.1) (nd_of rfl)) (ja_cons (je_tup (ja_cons (je_fzF (je_ownB (je_name rfl) rfl (cI.F start1)) (cI.F start1)) (ja_cons (je_fzF (je_ownB (je_name rfl) rfl (cI.F end1)) (cI.F end1)) ja_nil)) rfl (sl_le rfl)) ja_nil)) (ArgsE.v ((cT cI).F ((T__law_pick (T__law_drawn_lot ((T__law_pick (T__law_pick s2 liars1 []).2 liars1 []).2) ((T__law_pick (T__law_pick s2 liars1 []).2 liars1 []).1) (2 : Int)).2 ([(T__law_pick s2 liars1 []).1, (T__law_drawn_lot ((T__law_pick (T__law_pick s2 liars1 []).2 liars1 []).2) ((T__law_pick (T__law_pick s2 liars1 []).2 liars1 []).1) (2 : Int)).1] : List (List Int)) []).1)) (ArgsE.v ((cT cI).F ([start1, end1] : List Int)) ArgsE.nil)) (L__law_less ((T__law_pick (T__law_drawn_lot ((T__law_pick (T__law_pick s2 liars1 []).2 liars1 []).2) ((T__law_pick (T__law_pick s2 liars1 []).2 liars1 []).1) (2 : Int)).2 ([(T__law_pick s2 liars1 []).1, (T__law_drawn_lot ((T__law_pick (T__law_pick s2 liars1 []).2 liars1 []).2) ((T__law_pick (T__law_pick s2 liars1 []).2 liars1 []).1) (2 : Int)).1] : List (List Int)) []).1) ([start1, end1] : List Int) h.2.2.2.2.1) rfl) (jg_set rfl) (L_law_8 script1 k1 s1 liars1 start1 end1 j1 most2 turn1 s2 ((T__law_pick (T__law_drawn_lot ((T__law_pick (T__law_pick s2 liars1 []).2 liars1 []).2) ((T__law_pick (T__law_pick s2 liars1 []).2 liars1 []).1) (2 : Int)).2 ([(T__law_pick s2 liars1 []).1, (T__law_drawn_lot ((T__law_pick (T__law_pick s2 liars1 []).2 liars1 []).2) ((T__law_pick (T__law_pick s2 liars1 []).2 liars1 []).1) (2 : Int)).1] : List (List Int)) []).2) (T__law_less ((T__law_pick (T__law_drawn_lot ((T__law_pick (T__law_pick s2 liars1 []).2 liars1 []).2) ((T__law_pick (T__law_pick s2 liars1 []).2 liars1 []).1) (2 : Int)).2 ([(T__law_pick s2 liars1 []).1, (T__law_drawn_lot ((T__law_pick (T__law_pick s2 liars1 []).2 liars1 []).2) ((T__law_pick (T__law_pick s2 liars1 []).2 liars1 []).1) (2 : Int)).1] : List (List Int)) []).1) ([start1, end1] : List Int)) h.2.2.2.2.2))
def T_law_10  : Fo Unit Bool := (.nx ())
theorem L_law_10 (script1 : List Int) (k1 : Int) (s1 : Unit) (liars1 : List (List Int)) (start1 : Int) (end1 : Int) (j1 : (Int × (List (Int × Int))) × (List Int)) (most2 : Int) (s2 : List Int) : JS [some (.dt ((cL cI).e script1)), some (.dt (cI.e k1)), some (.dt ((oL cI.e) s2)), some (.dt ((cP (rC cI (r1 (cT (cP (rC cI (r1 cI))))))).e j1.1)), some (.dt ((cT (cT cI)).e liars1)), some (.dt (cI.e start1)), some (.dt (cI.e end1)), some (.dt ((cL cI).e j1.2)), some (.dt (cI.e most2)), none, none, none, none, none, none, none, none, none, none] fNx (Kl (K_law) (fun s1 : Unit => [some (.dt ((cL cI).e script1)), none, none, none, none, none, none, none, none, none, none, none, none, none, none, none, none, none, none]) (T_law_10 )) := (js_end (kl_nx ⟨rfl, le_dt, le_dt, le_dt, le_dt, le_dt, le_dt, le_dt, le_dt, trivial, trivial, trivial, trivial, trivial, trivial, trivial, trivial, trivial, trivial, trivial⟩))
def T_law_11 (liars1 : List (List Int)) (start1 : Int) (end1 : Int) (j1 : (Int × (List (Int × Int))) × (List Int)) (box4 : List Int) (most2 : Int) : Fo Unit Bool := ((forB (fun (turn1 : Int) (s2 : List Int) => T_law_9 liars1 start1 end1 j1 most2 s2) (rg (4 : Int)) box4).to (fun (s2 : List Int) => T_law_10 ))
def S_law_11 (liars1 : List (List Int)) (start1 : Int) (end1 : Int) (j1 : (Int × (List (Int × Int))) × (List Int)) (box4 : List Int) (most2 : Int) : Prop := (forS (fun (turn1 : Int) (s2 : List Int) => S_law_9 liars1 start1 end1 j1 most2 s2) (fun (turn1 : Int) (s2 : List Int) => T_law_9 liars1 start1 end1 j1 most2 s2) (rg (4 : Int)) box4)
theorem L_law_11 (script1 : List Int) (k1 : Int) (s1 : Unit) (liars1 : List (List Int)) (start1 : Int) (end1 : Int) (j1 : (Int × (List (Int × Int))) × (List Int)) (box4 : List Int) (most2 : Int) (h : S_law_11 liars1 start1 end1 j1 box4 most2) : JS [some (.dt ((cL cI).e script1)), some (.dt (cI.e k1)), some (.dt ((oL cI.e) box4)), some (.dt ((cP (rC cI (r1 (cT (cP (rC cI (r1 cI))))))).e j1.1)), some (.dt ((cT (cT cI)).e liars1)), some (.dt (cI.e start1)), some (.dt (cI.e end1)), some (.dt ((cL cI).e j1.2)), some (.dt (cI.e most2)), none, none, none, none, none, none, none, none, none, none] b_law_14 (Kl (K_law) (fun s1 : Unit => [some (.dt ((cL cI).e script1)), none, none, none, none, none, none, none, none, none, none, none, none, none, none, none, none, none, none]) (T_law_11 liars1 start1 end1 j1 box4 most2)) := (js_last (js_for (Kl (K_law) (fun s1 : Unit => [some (.dt ((cL cI).e script1)), none, none, none, none, none, none, none, none, none, none, none, none, none, none, none, none, none, none])) (fun s2 : List Int => [some (.dt ((cL cI).e script1)), some (.dt (cI.e k1)), some (.dt ((oL cI.e) s2)), some (.dt ((cP (rC cI (r1 (cT (cP (rC cI (r1 cI))))))).e j1.1)), some (.dt ((cT (cT cI)).e liars1)), some (.dt (cI.e start1)), some (.dt (cI.e end1)), some (.dt ((cL cI).e j1.2)), some (.dt (cI.e most2)), none, none, none, none, none, none, none, none, none, none]) cI.e (b := (fun (turn1 : Int) (s2 : List Int) => T_law_9 liars1 start1 end1 j1 most2 s2)) (S := (fun (turn1 : Int) (s2 : List Int) => S_law_9 liars1 start1 end1 j1 most2 s2)) (Sr := (fun _ => True)) (mr := (fun (s2 : List Int) => T_law_10 )) (xs := (rg (4 : Int))) (s0 := box4) (ji_rng1 (ja_cons je_c ja_nil) (rds1 rfl) (sm_of (by decide) (by decide))) ⟨rfl, rfl, rfl, rfl, rfl, rfl, rfl, rfl, rfl, trivial, trivial, trivial, trivial, trivial, trivial, trivial, trivial, trivial, trivial, trivial⟩ h (fun turn1 s2 hb => ⟨_, (jg_set rfl), L_law_9 script1 k1 s1 liars1 start1 end1 j1 most2 turn1 s2 hb⟩) all_T (fun s2 _ => L_law_10 script1 k1 s1 liars1 start1 end1 j1 most2 s2)))
def T_law_12 (box3 : List Int) (liars1 : List (List Int)) (start1 : Int) (end1 : Int) (j1 : (Int × (List (Int × Int))) × (List Int)) : Fo Unit Bool := (T_law_11 liars1 start1 end1 j1 ((T__law_pick box3 j1.2 0).2) ((T__law_pick box3 j1.2 0).1))
def S_law_12 (box3 : List Int) (liars1 : List (List Int)) (start1 : Int) (end1 : Int) (j1 : (Int × (List (Int × Int))) × (List Int)) : Prop := (S__law_pick box3 j1.2) ∧ (S_law_11 liars1 start1 end1 j1 ((T__law_pick box3 j1.2 0).2) ((T__law_pick box3 j1.2 0).1))
theorem L_law_12 (script1 : List Int) (k1 : Int) (s1 : Unit) (box3 : List Int) (liars1 : List (List Int)) (start1 : Int) (end1 : Int) (j1 : (Int × (List (Int × Int))) × (List Int)) (h : S_law_12 box3 liars1 start1 end1 j1) : JS [some (.dt ((cL cI).e script1)), some (.dt (cI.e k1)), some (.dt ((oL cI.e) box3)), some (.dt ((cP (rC cI (r1 (cT (cP (rC cI (r1 cI))))))).e j1.1)), some (.dt ((cT (cT cI)).e liars1)), some (.dt (cI.e start1)), some (.dt (cI.e end1)), some (.dt ((cL cI).e j1.2)), none, none, none, none, none, none, none, none, none, none, none] b_law_15 (Kl (K_law) (fun s1 : Unit => [some (.dt ((cL cI).e script1)), none, none, none, none, none, none, none, none, none, none, none, none, none, none, none, none, none, none]) (T_law_12 box3 liars1 start1 end1 j1)) := (js_asg (je_callU (ja_cons (je_name rfl) (ja_cons (je_fzF (je_ownB (je_name rfl) rfl ((cL cI).F j1.2)) ((cL cI).F j1.2)) ja_nil)) (ArgsE.b rfl rfl (ArgsE.v ((cL cI).F j1.2) ArgsE.nil)) (L__law_pick cI 0 box3 j1.2 seqL ((cL cI).F j1.2) h.1) (nd_of rfl)) (jg_set rfl) (L_law_11 script1 k1 s1 liars1 start1 end1 j1 ((T__law_pick box3 j1.2 0).2) ((T__law_pick box3 j1.2 0).1) h.2))
def T_law_13 (net1 : Int × (List (Int × Int))) (box3 : List Int) (liars1 : List (List Int)) (start1 : Int) (end1 : Int) (some1 : List Int) : Fo Unit Bool := (T_law_12 box3 liars1 start1 end1 (if (decide (some1 = ([] : List Int))) = true then (T_law_1 (net1.1, (sset (cP (rC cI (r1 cI))) (net1.2 ++ ([(start1, end1)] : List (Int × Int)))))) else (net1, some1)))
def S_law_13 (net1 : Int × (List (Int × Int))) (box3 : List Int) (liars1 : List (List Int)) (start1 : Int) (end1 : Int) (some1 : List Int) : Prop := (((decide (some1 = ([] : List Int)))) = true → ((net1.2.length + ([(start1, end1)] : List (Int × Int)).length ≤ sizeLine) ∧ ((net1.2 ++ ([(start1, end1)] : List (Int × Int))).length < 64))) ∧ (S_law_12 box3 liars1 start1 end1 (if (decide (some1 = ([] : List Int))) = true then (T_law_1 (net1.1, (sset (cP (rC cI (r1 cI))) (net1.2 ++ ([(start1, end1)] : List (Int × Int)))))) else (net1, some1)))
theorem L_law_13 (script1 : List Int) (k1 : Int) (s1 : Unit) (net1 : Int × (List (Int × Int))) (box3 : List Int) (liars1 : List (List Int)) (start1 : Int) (end1 : Int) (some1 : List Int) (h : S_law_13 net1 box3 liars1 start1 end1 some1) : JS [some (.dt ((cL cI).e script1)), some (.dt (cI.e k1)), some (.dt ((oL cI.e) box3)), some (.dt ((cP (rC cI (r1 (cT (cP (rC cI (r1 cI))))))).e net1)), some (.dt ((cT (cT cI)).e liars1)), some (.dt (cI.e start1)), some (.dt (cI.e end1)), some (.dt ((cL cI).e some1)), none, none, none, none, none, none, none, none, none, none, none] b_law_16 (Kl (K_law) (fun s1 : Unit => [some (.dt ((cL cI).e script1)), none, none, none, none, none, none, none, none, none, none, none, none, none, none, none, none, none, none]) (T_law_13 net1 box3 liars1 start1 end1 some1)) := (js_join (Kl (K_law) (fun s1 : Unit => [some (.dt ((cL cI).e script1)), none, none, none, none, none, none, none, none, none, none, none, none, none, none, none, none, none, none])) (fun j1 : (Int × (List (Int × Int))) × (List Int) => [some (.dt ((cL cI).e script1)), some (.dt (cI.e k1)), some (.dt ((oL cI.e) box3)), some (.dt ((cP (rC cI (r1 (cT (cP (rC cI (r1 cI))))))).e j1.1)), some (.dt ((cT (cT cI)).e liars1)), some (.dt (cI.e start1)), some (.dt (cI.e end1)), some (.dt ((cL cI).e j1.2)), none, none, none, none, none, none, none, none, none, none, none]) (mr := (fun j1 : (Int × (List (Int × Int))) × (List Int) => T_law_12 box3 liars1 start1 end1 j1)) (jt_val (je_op2 (je_name rfl) (je_lst ja_nil rfl (sl_le rfl)) rfl rfl (o_eqL cI (kle rfl) some1 ([] : List Int))) rfl) (fun hc72 => (js_asg (je_tup (ja_cons (je_op2 (je_name rfl) je_c rfl rfl (o_ixR 0 rfl (cI.F net1.1))) (ja_cons (je_call (ja_cons (je_call (ja_cons (je_op2 (je_op2 (je_name rfl) je_c rfl rfl (o_ixR 1 rfl ((cT (cP (rC cI (r1 cI)))).F net1.2))) (je_tup (ja_cons (je_tup (ja_cons (je_fzF (je_ownB (je_name rfl) rfl (cI.F start1)) (cI.F start1)) (ja_cons (je_fzF (je_ownB (je_name rfl) rfl (cI.F end1)) (cI.F end1)) ja_nil)) rfl (sl_le rfl)) ja_nil) rfl (sl_le rfl)) rfl rfl (o_addT (cP (rC cI (r1 cI))) (xs := net1.2) (ys := ([(start1, end1)] : List (Int × Int))) (h.1 hc72).1)) ja_nil) (rds1 rfl) (o_sset se_2 (xs := (net1.2 ++ ([(start1, end1)] : List (Int × Int)))) seqT (h.1 hc72).2)) ja_nil) (rds1 rfl) (o_tuple (cP (rC cI (r1 cI))) (xs := (sset (cP (rC cI (r1 cI))) (net1.2 ++ ([(start1, end1)] : List (Int × Int))))) seqL)) ja_nil)) rfl (sl_le rfl)) (jg_set rfl) (L_law_1 script1 k1 box3 liars1 start1 end1 some1 (net1.1, (sset (cP (rC cI (r1 cI))) (net1.2 ++ ([(start1, end1)] : List (Int × Int)))))))) (fun hc73 => (js_end (kj_of ⟨rfl, rfl, rfl, rfl, rfl, rfl, rfl, rfl, trivial, trivial, trivial, trivial, trivial, trivial, trivial, trivial, trivial, trivial, trivial, trivial⟩))) (L_law_12 script1 k1 s1 box3 liars1 start1 end1 (if (decide (some1 = ([] : List Int))) = true then (T_law_1 (net1.1, (sset (cP (rC cI (r1 cI))) (net1.2 ++ ([(start1, end1)] : List (Int × Int)))))) else (net1, some1)) h.2))
def T_law_14 (net1 : Int × (List (Int × Int))) (box3 : List Int) (liars1 : List (List Int)) (start1 : Int) (end1 : Int) : Fo Unit Bool := (T_law_13 net1 box3 liars1 start1 end1 (((rg2 (1 : Int) net1.1).filter fun (most1 : Int) => (T__law_hop_cut net1 liars1 start1 end1 most1).isNone).map fun (most1 : Int) => most1))
def S_law_14 (net1 : Int × (List (Int × Int))) (box3 : List Int) (liars1 : List (List Int)) (start1 : Int) (end1 : Int) : Prop := (Sm net1.1) ∧ ((rg2 (1 : Int) net1.1).length ≤ sizeLine) ∧ (∀ most1 ∈ (rg2 (1 : Int) net1.1), (S__law_hop_cut net1 liars1 start1 end1 most1)) ∧ (S_law_13 net1 box3 liars1 start1 end1 (((rg2 (1 : Int) net1.1).filter fun (most1 : Int) => (T__law_hop_cut net1 liars1 start1 end1 most1).isNone).map fun (most1 : Int) => most1))
theorem L_law_14 (script1 : List Int) (k1 : Int) (s1 : Unit) (net1 : Int × (List (Int × Int))) (box3 : List Int) (liars1 : List (List Int)) (start1 : Int) (end1 : Int) (h : S_law_14 net1 box3 liars1 start1 end1) : JS [some (.dt ((cL cI).e script1)), some (.dt (cI.e k1)), some (.dt ((oL cI.e) box3)), some (.dt ((cP (rC cI (r1 (cT (cP (rC cI (r1 cI))))))).e net1)), some (.dt ((cT (cT cI)).e liars1)), some (.dt (cI.e start1)), some (.dt (cI.e end1)), none, none, none, none, none, none, none, none, none, none, none, none] b_law_17 (Kl (K_law) (fun s1 : Unit => [some (.dt ((cL cI).e script1)), none, none, none, none, none, none, none, none, none, none, none, none, none, none, none, none, none, none]) (T_law_14 net1 box3 liars1 start1 end1)) := (js_assoc (js_asg (je_lcP cI.e cI.e (c := fun (most1 : Int) => (T__law_hop_cut net1 liars1 start1 end1 most1).isNone) (f := fun (most1 : Int) => most1) (S := (fun most1 : Int => (S__law_hop_cut net1 liars1 start1 end1 most1))) (xs := (rg2 (1 : Int) net1.1)) (Γx := (fun most1 : Int => [some (.dt ((cL cI).e script1)), some (.dt (cI.e k1)), some (.dt ((oL cI.e) box3)), some (.dt ((cP (rC cI (r1 (cT (cP (rC cI (r1 cI))))))).e net1)), some (.dt ((cT (cT cI)).e liars1)), some (.dt (cI.e start1)), some (.dt (cI.e end1)), none, some (.dt (cI.e most1)), none, none, none, none, none, none, none, none, none, none])) (ji_rng2 (ja_cons je_c (ja_cons (je_op2 (je_name rfl) je_c rfl rfl (o_ixR 0 rfl (cI.F net1.1))) ja_nil)) (rds2 rfl rfl) (sm_of (by decide) (by decide)) h.1) rfl h.2.1 h.2.2.1 (fun most1 => (jg_set rfl)) (fun most1 hx => (jt_val (je_op1 (je_callP (ja_cons (je_fzF (je_ownB (je_name rfl) rfl ((cP (rC cI (r1 (cT (cP (rC cI (r1 cI))))))).F net1)) ((cP (rC cI (r1 (cT (cP (rC cI (r1 cI))))))).F net1)) (ja_cons (je_fzF (je_ownB (je_name rfl) rfl ((cT (cT cI)).F liars1)) ((cT (cT cI)).F liars1)) (ja_cons (je_fzF (je_ownB (je_name rfl) rfl (cI.F start1)) (cI.F start1)) (ja_cons (je_fzF (je_ownB (je_name rfl) rfl (cI.F end1)) (cI.F end1)) (ja_cons (je_fzF (je_ownB (je_name rfl) rfl (cI.F most1)) (cI.F most1)) ja_nil))))) (ArgsE.v ((cP (rC cI (r1 (cT (cP (rC cI (r1 cI))))))).F net1) (ArgsE.v ((cT (cT cI)).F liars1) (ArgsE.v (cI.F start1) (ArgsE.v (cI.F end1) (ArgsE.v (cI.F most1) ArgsE.nil))))) (L__law_hop_cut net1 liars1 start1 end1 most1 hx) rfl) rfl (o_isN (cP (rC (cT cI) (r1 (cT cI)))) (fun _ => rfl) (T__law_hop_cut net1 liars1 start1 end1 most1))) rfl)) (fun most1 hx hc71 => (je_fzF (je_ownB (je_name rfl) rfl (cI.F most1)) (cI.F most1))) (fun _ => rfl) (back_any back_nil rfl)) (jg_set rfl) (js_frz rfl (frz_oL cI (((rg2 (1 : Int) net1.1).filter fun (most1 : Int) => (T__law_hop_cut net1 liars1 start1 end1 most1).isNone).map fun (most1 : Int) => most1)) (L_law_13 script1 k1 s1 net1 box3 liars1 start1 end1 (((rg2 (1 : Int) net1.1).filter fun (most1 : Int) => (T__law_hop_cut net1 liars1 start1 end1 most1).isNone).map fun (most1 : Int) => most1) h.2.2.2))))
def T_law_15 (box2 : List Int) (net1 : Int × (List (Int × Int))) : Fo Unit Bool := (T_law_14 net1 ((T__law_ends ((T__law_liars box2 net1.1).2) net1).2) ((T__law_liars box2 net1.1).1) (((T__law_ends ((T__law_liars box2 net1.1).2) net1).1).1) (((T__law_ends ((T__law_liars box2 net1.1).2) net1).1).2))
def S_law_15 (box2 : List Int) (net1 : Int × (List (Int × Int))) : Prop := (S__law_liars box2 net1.1) ∧ (S__law_ends ((T__law_liars box2 net1.1).2) net1) ∧ (S_law_14 net1 ((T__law_ends ((T__law_liars box2 net1.1).2) net1).2) ((T__law_liars box2 net1.1).1) (((T__law_ends ((T__law_liars box2 net1.1).2) net1).1).1) (((T__law_ends ((T__law_liars box2 net1.1).2) net1).1).2))
theorem L_law_15 (script1 : List Int) (k1 : Int) (s1 : Unit) (box2 : List Int) (net1 : Int × (List (Int × Int))) (h : S_law_15 box2 net1) : JS [some (.dt ((cL cI).e script1)), some (.dt (cI.e k1)), some (.dt ((oL cI.e) box2)), some (.dt ((cP (rC cI (r1 (cT (cP (rC cI (r1 cI))))))).e net1)), none, none, none, none, none, none, none, none, none, none, none, none, none, none, none] b_law_18 (Kl (K_law) (fun s1 : Unit => [some (.dt ((cL cI).e script1)), none, none, none, none, none, none, none, none, none, none, none, none, none, none, none, none, none, none]) (T_law_15 box2 net1)) := (js_asg (je_tup (ja_cons (je_callU (ja_cons (je_name rfl) (ja_cons (je_op2 (je_name rfl) je_c rfl rfl (o_ixR 0 rfl (cI.F net1.1))) ja_nil)) (ArgsE.b rfl rfl (ArgsE.v (cI.F net1.1) ArgsE.nil)) (L__law_liars box2 net1.1 h.1) (nd_of rfl)) (ja_cons (je_callU (ja_cons (je_name rfl) (ja_cons (je_fzF (je_ownB (je_name rfl) rfl ((cP (rC cI (r1 (cT (cP (rC cI (r1 cI))))))).F net1)) ((cP (rC cI (r1 (cT (cP (rC cI (r1 cI))))))).F net1)) ja_nil)) (ArgsE.b rfl rfl (ArgsE.v ((cP (rC cI (r1 (cT (cP (rC cI (r1 cI))))))).F net1) ArgsE.nil)) (L__law_ends ((T__law_liars box2 net1.1).2) net1 h.2.1) (nd_of rfl)) ja_nil)) rfl (sl_le rfl)) (jg_tup (.cons (jg_set rfl) (.cons (jg_tup (.cons (jg_set rfl) (.cons (jg_set rfl) .nil))) .nil))) (L_law_14 script1 k1 s1 net1 ((T__law_ends ((T__law_liars box2 net1.1).2) net1).2) ((T__law_liars box2 net1.1).1) (((T__law_ends ((T__law_liars box2 net1.1).2) net1).1).1) (((T__law_ends ((T__law_liars box2 net1.1).2) net1).1).2) h.2.2))
def T_law_16 (box1 : List Int) : Fo Unit Bool := (T_law_15 ((T__law_net ((T__law_take ((T__law_take box1 (3 : Int)).2) (2 : Int)).2) ((3 : Int) + (T__law_take box1 (3 : Int)).1) (decide ((T__law_take ((T__law_take box1 (3 : Int)).2) (2 : Int)).1 = (0 : Int)))).2) ((T__law_net ((T__law_take ((T__law_take box1 (3 : Int)).2) (2 : Int)).2) ((3 : Int) + (T__law_take box1 (3 : Int)).1) (decide ((T__law_take ((T__law_take box1 (3 : Int)).2) (2 : Int)).1 = (0 : Int)))).1))
def S_law_16 (box1 : List Int) : Prop := (S__law_take box1 (3 : Int)) ∧ (S__law_take ((T__law_take box1 (3 : Int)).2) (2 : Int)) ∧ (S__law_net ((T__law_take ((T__law_take box1 (3 : Int)).2) (2 : Int)).2) ((3 : Int) + (T__law_take box1 (3 : Int)).1) (decide ((T__law_take ((T__law_take box1 (3 : Int)).2) (2 : Int)).1 = (0 : Int)))) ∧ (S_law_15 ((T__law_net ((T__law_take ((T__law_take box1 (3 : Int)).2) (2 : Int)).2) ((3 : Int) + (T__law_take box1 (3 : Int)).1) (decide ((T__law_take ((T__law_take box1 (3 : Int)).2) (2 : Int)).1 = (0 : Int)))).2) ((T__law_net ((T__law_take ((T__law_take box1 (3 : Int)).2) (2 : Int)).2) ((3 : Int) + (T__law_take box1 (3 : Int)).1) (decide ((T__law_take ((T__law_take box1 (3 : Int)).2) (2 : Int)).1 = (0 : Int)))).1))
theorem L_law_16 (script1 : List Int) (k1 : Int) (s1 : Unit) (box1 : List Int) (h : S_law_16 box1) : JS [some (.dt ((cL cI).e script1)), some (.dt (cI.e k1)), some (.dt ((oL cI.e) box1)), none, none, none, none, none, none, none, none, none, none, none, none, none, none, none, none] b_law_19 (Kl (K_law) (fun s1 : Unit => [some (.dt ((cL cI).e script1)), none, none, none, none, none, none, none, none, none, none, none, none, none, none, none, none, none, none]) (T_law_16 box1)) := (js_asg (je_callU (ja_cons (je_name rfl) (ja_cons (je_op2 je_c (je_callU (ja_cons (je_name rfl) (ja_cons je_c ja_nil)) (ArgsE.b rfl rfl (ArgsE.v (cI.F (3 : Int)) ArgsE.nil)) (L__law_take box1 (3 : Int) h.1) (nd_of rfl)) rfl rfl (o_addI (3 : Int) (T__law_take box1 (3 : Int)).1)) (ja_cons (je_op2 (je_callU (ja_cons (je_name rfl) (ja_cons je_c ja_nil)) (ArgsE.b rfl rfl (ArgsE.v (cI.F (2 : Int)) ArgsE.nil)) (L__law_take ((T__law_take box1 (3 : Int)).2) (2 : Int) h.2.1) (nd_of rfl)) je_c rfl rfl (o_eq cI (kle rfl) ((T__law_take ((T__law_take box1 (3 : Int)).2) (2 : Int)).1) (0 : Int))) ja_nil))) (ArgsE.b rfl rfl (ArgsE.v (cI.F ((3 : Int) + (T__law_take box1 (3 : Int)).1)) (ArgsE.v (cB.F (decide ((T__law_take ((T__law_take box1 (3 : Int)).2) (2 : Int)).1 = (0 : Int)))) ArgsE.nil))) (L__law_net ((T__law_take ((T__law_take box1 (3 : Int)).2) (2 : Int)).2) ((3 : Int) + (T__law_take box1 (3 : Int)).1) (decide ((T__law_take ((T__law_take box1 (3 : Int)).2) (2 : Int)).1 = (0 : Int))) h.2.2.1) (nd_of rfl)) (jg_set rfl) (L_law_15 script1 k1 s1 ((T__law_net ((T__law_take ((T__law_take box1 (3 : Int)).2) (2 : Int)).2) ((3 : Int) + (T__law_take box1 (3 : Int)).1) (decide ((T__law_take ((T__law_take box1 (3 : Int)).2) (2 : Int)).1 = (0 : Int)))).2) ((T__law_net ((T__law_take ((T__law_take box1 (3 : Int)).2) (2 : Int)).2) ((3 : Int) + (T__law_take box1 (3 : Int)).1) (decide ((T__law_take ((T__law_take box1 (3 : Int)).2) (2 : Int)).1 = (0 : Int)))).1) h.2.2.2))
def T_law_17 (script1 : List Int) (k1 : Int) : Fo Unit Bool := (T_law_16 (T__law_box script1 k1))
def S_law_17 (script1 : List Int) (k1 : Int) : Prop := (S__law_box script1 k1) ∧ (S_law_16 (T__law_box script1 k1))
theorem L_law_17 (script1 : List Int) (k1 : Int) (s1 : Unit) (h : S_law_17 script1 k1) : JS [some (.dt ((cL cI).e script1)), some (.dt (cI.e k1)), none, none, none, none, none, none, none, none, none, none, none, none, none, none, none, none, none] b_law_20 (Kl (K_law) (fun s1 : Unit => [some (.dt ((cL cI).e script1)), none, none, none, none, none, none, none, none, none, none, none, none, none, none, none, none, none, none]) (T_law_17 script1 k1)) := (js_asg (je_callP (ja_cons (je_fzF (je_ownB (je_name rfl) rfl ((cL cI).F script1)) ((cL cI).F script1)) (ja_cons (je_fzF (je_ownB (je_name rfl) rfl (cI.F k1)) (cI.F k1)) ja_nil)) (ArgsE.v ((cL cI).F script1) (ArgsE.v (cI.F k1) ArgsE.nil)) (L__law_box script1 k1 h.1) rfl) (jg_set rfl) (L_law_16 script1 k1 s1 (T__law_box script1 k1) h.2))
def T_law_18  : Bool := true
theorem L_law_18 (script1 : List Int) : JS [some (.dt ((cL cI).e script1)), none, none, none, none, none, none, none, none, none, none, none, none, none, none, none, none, none, none] b_law_21 (K_law (T_law_18 )) := (js_last (js_ret je_c (kf_rt rfl)))
def T_law (script1 : List Int) : Bool := ((forB (fun (k1 : Int) (s1 : Unit) => T_law_17 script1 k1) (rg (max2 (3 : Int) (min2 (script1.length : Int) (8 : Int)))) ()).to (fun (s1 : Unit) => T_law_18 ))
theorem T_law_eq (script1 : List Int) : T_law script1 = ((forB (fun (k1 : Int) (s1 : Unit) => T_law_17 script1 k1) (rg (max2 (3 : Int) (min2 (script1.length : Int) (8 : Int)))) ()).to (fun (s1 : Unit) => T_law_18 )) := rfl
def S_law (script1 : List Int) : Prop := (Sm (max2 (3 : Int) (min2 (script1.length : Int) (8 : Int)))) ∧ (forS (fun (k1 : Int) (s1 : Unit) => S_law_17 script1 k1) (fun (k1 : Int) (s1 : Unit) => T_law_17 script1 k1) (rg (max2 (3 : Int) (min2 (script1.length : Int) (8 : Int)))) ())
theorem S_law_eq (script1 : List Int) : S_law script1 = ((Sm (max2 (3 : Int) (min2 (script1.length : Int) (8 : Int)))) ∧ (forS (fun (k1 : Int) (s1 : Unit) => S_law_17 script1 k1) (fun (k1 : Int) (s1 : Unit) => T_law_17 script1 k1) (rg (max2 (3 : Int) (min2 (script1.length : Int) (8 : Int)))) ())) := rfl
theorem L_law (script1 : List Int) (h : S_law script1) : F_law [((cL cI).e script1)] = .ok (cB.e (T_law script1)) [.non] := fn_of (n := 19) (show JS [some (.dt ((cL cI).e script1)), some .un, some .un, some .un, some .un, some .un, some .un, some .un, some .un, some .un, some .un, some .un, some .un, some .un, some .un, some .un, some .un, some .un, some .un] b_law_22 (K_law (T_law script1)) from (js_for (K_law) (fun s1 : Unit => [some (.dt ((cL cI).e script1)), none, none, none, none, none, none, none, none, none, none, none, none, none, none, none, none, none, none]) cI.e (b := (fun (k1 : Int) (s1 : Unit) => T_law_17 script1 k1)) (S := (fun (k1 : Int) (s1 : Unit) => S_law_17 script1 k1)) (Sr := (fun _ => True)) (mr := (fun (s1 : Unit) => T_law_18 )) (xs := (rg (max2 (3 : Int) (min2 (script1.length : Int) (8 : Int))))) (s0 := ()) (ji_rng1 (ja_cons (je_call (ja_cons je_c (ja_cons (je_call (ja_cons (je_call (ja_cons (je_name rfl) ja_nil) (rds1 rfl) (o_len cI.e (xs := script1) seqL)) (ja_cons je_c ja_nil)) (rds2 rfl rfl) (o_min2 (script1.length : Int) (8 : Int))) ja_nil)) (rds2 rfl rfl) (o_max2 (3 : Int) (min2 (script1.length : Int) (8 : Int)))) ja_nil) (rds1 rfl) h.1) ⟨rfl, le_un, le_un, le_un, le_un, le_un, le_un, le_un, le_un, le_un, le_un, le_un, le_un, le_un, le_un, le_un, le_un, le_un, le_un, trivial⟩ h.2 (fun k1 s1 hb => ⟨_, (jg_set rfl), L_law_17 script1 k1 s1 hb⟩) all_T (fun s1 _ => L_law_18 script1)))
end
end K02
/-! drawing: a box is two ints -/
namespace K02
open PySem PySem.Spec
open PyProof.Rows hiding St
open L2 EE
def BoxOk (b : List Int) : Prop := ∃ a c : Int, b = [a, c]
theorem take_ok {box : List Int} {m : Int} (hb : BoxOk box) (h0 : 0 < m) (h1 : m < 1073741824) : S__law_take box m ∧ BoxOk (T__law_take box m).2 ∧ 0 ≤ (T__law_take box m).1 ∧ (T__law_take box m).1 < m := by
  obtain ⟨a, c, rfl⟩ := hb
  by_cases h : 0 < a
  · have e : T__law_take [a, c] m = (a % m, [a / m, c]) := by
      unfold T__law_take
      rw [if_pos (show decide ((0 : Int) < [a, c].getD 0 0) = true from decide_eq_true h)]
      rfl
    rw [e]
    refine ⟨⟨(show 0 < 2 by decide), fun _ => ⟨(show 0 < 2 by decide), h0, (show 0 < 2 by decide), ⟨h0, h1⟩, ⟨(show -(2 : Int) ≤ 0 by decide), (show (0 : Int) < 2 by decide)⟩⟩, fun z => ?_⟩, ⟨_, _, rfl⟩, Int.emod_nonneg _ (by omega), Int.emod_lt_of_pos _ h0⟩
    exact absurd (of_decide_eq_false z) (fun q => q h)
  · have e : ∃ x y, T__law_take [a, c] m = (x % m, [a, y]) := by
      unfold T__law_take
      rw [if_neg (show ¬ decide ((0 : Int) < [a, c].getD 0 0) = true from fun z => h (of_decide_eq_true z))]
      exact ⟨_, _, rfl⟩
    obtain ⟨x, y, e⟩ := e
    rw [e]
    refine ⟨⟨(show 0 < 2 by decide), fun z => absurd (of_decide_eq_true z) h, fun _ => ⟨(show 1 < 2 by decide), ⟨(show -(2 : Int) ≤ 1 by decide), (show (1 : Int) < 2 by decide)⟩, (show 1 < 2 by decide), h0⟩⟩, ⟨_, _, rfl⟩, Int.emod_nonneg _ (by omega), Int.emod_lt_of_pos _ h0⟩
theorem pick_ok {α : Type} {box : List Int} {xs : List α} (d : α) (hb : BoxOk box) (h0 : xs ≠ []) (h1 : xs.length < 1073741824) : S__law_pick box xs ∧ BoxOk (T__law_pick box xs d).2 ∧ (T__law_pick box xs d).1 ∈ xs := by
  have hl : 0 < xs.length := List.length_pos_iff.mpr h0
  obtain ⟨s, b, r0, r1⟩ := take_ok (box := box) (m := xs.length) hb (by omega) (by omega)
  refine ⟨⟨s, by omega, r1⟩, b, ?_⟩
  show xs.getD (ixI xs.length (T__law_take box xs.length).1) d ∈ xs
  have hi : ixI xs.length (T__law_take box xs.length).1 < xs.length := by
    unfold ixI
    rw [if_pos r0]
    omega
  rw [List.getD_eq_getElem?_getD, List.getElem?_eq_getElem hi]
  exact List.getElem_mem hi
theorem box_ok (script : List Int) (k : Nat) : S__law_box script k ∧ BoxOk (T__law_box script k) := by
  refine ⟨⟨fun h => ?_, fun _ h => ?_⟩, ⟨_, _, rfl⟩⟩
  · have := of_decide_eq_true h
    exact ⟨by omega, this⟩
  · have h := of_decide_eq_true h
    refine ⟨h, ?_, Int.emod_lt_of_pos _ h⟩
    have := Int.emod_nonneg (k : Int) (show (script.length : Int) ≠ 0 by omega)
    omega
end K02

/-! the law's trails -/
namespace K02
open PySem PySem.Spec
open PyProof.Rows hiding St
open L2 EE TM

theorem memB_containsL (x : Int) (xs : List Int) : memB x xs = xs.contains x := by
  rw [Bool.eq_iff_iff, memB_iff, List.contains_iff_mem]
theorem row_step (n e : Int) (ws : Wy) (hw : ws.length < 1000) (p : Pt) (acc : List Pt) (hp : p ≠ []) (hl : p.length < 1000) (ha : acc.length < 2000000) : S__law_trails_1 (n, ws) e p acc ∧ T__law_trails_1 (n, ws) e p acc = if isE e p = true then acc else acc ++ nxt ws p := by
  have hm : (((ws.filter fun (x1 : Int × Int) => ((decide (x1.1 = (p.getLastD 0))) && (!(memB x1.2 p)))).map fun (x1 : Int × Int) => (p ++ ([x1.2] : List Int)))) = nxt ws p := by
    unfold nxt
    congr 1
    apply List.filter_congr
    intro w _
    rw [memB_containsL]
    rfl
  have nl := nxt_le ws p
  constructor
  · refine ⟨hp, fun _ => ⟨sl_of (show ws.length ≤ 16777216 by omega), fun w _ => ⟨hp, fun _ => sl_of (by simp; omega)⟩, ?_⟩⟩
    show acc.length + (((ws.filter fun (x1 : Int × Int) => ((decide (x1.1 = (p.getLastD 0))) && (!(memB x1.2 p)))).map fun (x1 : Int × Int) => (p ++ ([x1.2] : List Int)))).length ≤ sizeLine
    rw [hm]
    exact sl_of (by omega)
  · unfold T__law_trails_1
    cases hc : isE e p with
    | true =>
      have h' : p.getLastD 0 = e := by unfold isE at hc; exact eq_of_beq hc
      rw [if_neg (show ¬ (!decide (p.getLastD 0 = e)) = true by rw [decide_eq_true h']; decide)]; rfl
    | false =>
      have h' : ¬ p.getLastD 0 = e := fun z => by unfold isE at hc; rw [show lst p = e from z] at hc; simp at hc
      rw [if_pos (show (!decide (p.getLastD 0 = e)) = true by rw [decide_eq_false h']; decide)]
      show acc ++ _ = _
      rw [hm]; rfl
theorem rows_loop (n e : Int) (ws : Wy) (hw : ws.length < 1000) : ∀ (rows acc : List Pt), (∀ p ∈ rows, p ≠ [] ∧ p.length < 1000) → acc.length + (grow ws e rows).length < 2000000 →
    forSF (fun (row2 : List Int) (s2 : List (List Int)) => S__law_trails_1 (n, ws) e row2 s2) (fun (row2 : List Int) (s2 : List (List Int)) => T__law_trails_1 (n, ws) e row2 s2) rows acc ∧ forF (fun (row2 : List Int) (s2 : List (List Int)) => T__law_trails_1 (n, ws) e row2 s2) rows acc = acc ++ grow ws e rows
  | [], acc, _, _ => ⟨trivial, by simp [forF, grow]⟩
  | p :: rows, acc, hr, hl => by
    obtain ⟨h1, h2⟩ := hr p List.mem_cons_self
    obtain ⟨s1, t1⟩ := row_step n e ws hw p acc h1 h2 (by omega)
    cases hc : isE e p with
    | true =>
      have g : grow ws e (p :: rows) = grow ws e rows := by unfold grow; rw [List.filter_cons_of_neg (by rw [hc]; decide)]
      rw [hc, if_pos rfl] at t1
      rw [g] at hl ⊢
      obtain ⟨s2, t2⟩ := rows_loop n e ws hw rows acc (fun q hq => hr q (List.mem_cons_of_mem _ hq)) hl
      refine ⟨⟨s1, ?_⟩, ?_⟩
      · show forSF _ _ rows (T__law_trails_1 (n, ws) e p acc)
        rw [t1]; exact s2
      · rw [forF, t1]; exact t2
    | false =>
      have g : grow ws e (p :: rows) = nxt ws p ++ grow ws e rows := by unfold grow; rw [List.filter_cons_of_pos (by rw [hc]; decide), List.flatMap_cons]
      rw [hc, if_neg (by decide)] at t1
      rw [g, List.length_append] at hl
      obtain ⟨s2, t2⟩ := rows_loop n e ws hw rows (acc ++ nxt ws p) (fun q hq => hr q (List.mem_cons_of_mem _ hq)) (by rw [List.length_append]; omega)
      refine ⟨⟨s1, ?_⟩, ?_⟩
      · show forSF _ _ rows (T__law_trails_1 (n, ws) e p acc)
        rw [t1]; exact s2
      · rw [forF, t1, t2, g, List.append_assoc]
theorem turn_step (n e : Int) (ws : Wy) (hw : ws.length < 1000) (rows found : List Pt) (hr : ∀ p ∈ rows, p ≠ [] ∧ p.length < 1000) (hl : (grow ws e rows).length < 2000000) (hf : found.length + rows.length < 2000000) :
    S__law_trails_5 (n, ws) e (rows, found) ∧ T__law_trails_5 (n, ws) e (rows, found) = (grow ws e rows, found ++ rows.filter (isE e)) := by
  obtain ⟨s1, t1⟩ := rows_loop n e ws hw rows [] hr (by simpa using hl)
  have hm : ((rows.filter fun (row1 : List Int) => (decide ((row1.getLastD 0) = e))).map fun (row1 : List Int) => row1) = rows.filter (isE e) := by
    rw [List.map_id']
    rfl
  have fl : (rows.filter (isE e)).length ≤ rows.length := List.length_filter_le _ _
  constructor
  · refine ⟨sl_of (show rows.length ≤ 16777216 by omega), fun p hp => (hr p hp).1, ?_, s1⟩
    show found.length + ((rows.filter fun (row1 : List Int) => (decide ((row1.getLastD 0) = e))).map fun (row1 : List Int) => row1).length ≤ sizeLine
    rw [hm]
    exact sl_of (by omega)
  · show (forF _ rows [], found ++ _) = _
    rw [t1, hm]; rfl
theorem turns (n e : Int) (ws : Wy) (hw : ws.length < 1000) : ∀ (ks : List Int) (rows found : List Pt), (∀ p ∈ rows, p ≠ [] ∧ p.length + ks.length < 1000) → found.length + (rows.map (cnt ws e ks.length)).sum < 1000000 →
    forSF (fun (turn1 : Int) (s1 : (List (List Int)) × (List (List Int))) => S__law_trails_5 (n, ws) e s1) (fun (turn1 : Int) (s1 : (List (List Int)) × (List (List Int))) => T__law_trails_5 (n, ws) e s1) ks (rows, found) ∧
    ∃ r' f', forF (fun (turn1 : Int) (s1 : (List (List Int)) × (List (List Int))) => T__law_trails_5 (n, ws) e s1) ks (rows, found) = (r', f') ∧ f'.Perm (found ++ rows.flatMap (trB ws e ks.length)) ∧ f'.length < 1000000
  | [], rows, found, _, hs => ⟨trivial, rows, found, rfl, by
      have : rows.flatMap (trB ws e 0) = [] := by rw [List.flatMap_eq_nil_iff]; intro x _; rfl
      rw [List.length_nil, this, List.append_nil], by omega⟩
  | k :: ks, rows, found, hr, hs => by
    rw [List.length_cons] at hs hr
    have cg := cnt_grow ws e ks.length rows
    have ge1 : rows.length ≤ (rows.map (cnt ws e (ks.length + 1))).sum := sum_ge _ (cnt_pos ws e _) rows
    have ge2 : (grow ws e rows).length ≤ ((grow ws e rows).map (cnt ws e ks.length)).sum := sum_ge _ (cnt_pos ws e _) _
    obtain ⟨s1, t1⟩ := turn_step n e ws hw rows found (fun p hp => ⟨(hr p hp).1, by have := (hr p hp).2; omega⟩) (by omega) (by omega)
    have fl : (found ++ rows.filter (isE e)).length + ((grow ws e rows).map (cnt ws e ks.length)).sum < 1000000 := by
      rw [List.length_append]; omega
    obtain ⟨s2, r', f', t2, p2, l2⟩ := turns n e ws hw ks (grow ws e rows) (found ++ rows.filter (isE e)) (fun q hq => by
      obtain ⟨p, hp, hl⟩ := grow_len ws e rows q hq
      have := (hr p hp).2
      exact ⟨fun z => by rw [z] at hl; simp at hl, by omega⟩) fl
    refine ⟨⟨s1, ?_⟩, r', f', ?_, p2.trans ?_, l2⟩
    · show forSF _ _ ks (T__law_trails_5 (n, ws) e (rows, found))
      rw [t1]; exact s2
    · rw [forF, t1]; exact t2
    · rw [List.append_assoc, List.length_cons]
      exact List.Perm.append_left found (grow_perm ws e ks.length rows)

theorem ltrails_ok (n : Nat) (s e : Int) (ws : Wy) (hn : n < 500) (hw : ws.length < 1000) (hb : cnt ws e n [s] < 900000) : S__law_trails ((n : Int), ws) s e ∧ T__law_trails ((n : Int), ws) s e = srt (cT cI) (trB ws e n [s]) := by
  have l := rg_len n
  obtain ⟨s1, r', f', t1, p1, l1⟩ := turns (n : Int) e ws hw (rg (n : Int)) [[s]] [] (fun p hp => by rw [List.mem_singleton.mp hp, l]; simp; omega) (by rw [l]; simp; omega)
  rw [l] at p1
  have e1 : T__law_trails ((n : Int), ws) s e = srt (cT cI) f' := by
    unfold T__law_trails T__law_trails_7
    rw [t1]; rfl
  have hp : f'.Perm (trB ws e n [s]) := by simpa using p1
  refine ⟨⟨sm_of (by omega) (by omega), s1, ?_⟩, e1.trans (srt_eq (anti_of (so_T so_I)) hp)⟩
  rw [t1]
  exact sl_of (show f'.length ≤ 16777216 by omega)
theorem srt_filt {α : Type} {c : Cd α} (h : Anti c) (f : α → Bool) (xs : List α) : (srt c xs).filter f = srt c (xs.filter f) :=
  List.Perm.eq_of_pairwise (fun a b _ _ h1 h2 => h a b h1 h2) ((srt_pw c xs).filter f) (srt_pw c _) (((srt_perm c xs).filter f).trans (srt_perm c _).symm)
theorem lshort_ok (n : Nat) (s e : Int) (ws : Wy) (m : Nat) (hn : n < 500) (hm : m ≤ n) (hw : ws.length < 1000) (hr : ∀ w ∈ ws, 0 ≤ w.2 ∧ w.2 < n) (hs : 0 ≤ s ∧ s < n) (hb : cnt ws e n [s] < 900000) (hl : (trB ws e n [s]).length < 900000) :
    S__law_short ((n : Int), ws) s e (m : Nat) ∧ T__law_short ((n : Int), ws) s e (m : Nat) = srt (cT cI) (tr ws e m [s]) := by
  obtain ⟨s1, t1⟩ := ltrails_ok n s e ws hn hw hb
  refine ⟨⟨s1, ?_⟩, ?_⟩
  · rw [t1, srt_len]
    exact sl_of (by omega)
  · unfold T__law_short
    rw [t1, List.map_id', srt_filt (anti_of (so_T so_I)), ← tr_short hr hs hm]
    congr 1
    apply List.filter_congr
    intro q _
    rw [decide_eq_decide]
    omega
end K02

/-! the drawn net -/
namespace K02
open PySem PySem.Spec
open PyProof.Rows hiding St
open L2 EE TM
theorem take_ex {box : List Int} {m : Int} (hb : BoxOk box) (h0 : 0 < m) (h1 : m < 1073741824) : S__law_take box m ∧ ∃ x b', T__law_take box m = (x, b') ∧ BoxOk b' ∧ 0 ≤ x ∧ x < m :=
  ⟨(take_ok hb h0 h1).1, _, _, rfl, (take_ok hb h0 h1).2⟩
theorem pick_ex {α : Type} {box : List Int} {xs : List α} (d : α) (hb : BoxOk box) (h0 : xs ≠ []) (h1 : xs.length < 1073741824) : S__law_pick box xs ∧ ∃ x b', T__law_pick box xs d = (x, b') ∧ BoxOk b' ∧ x ∈ xs :=
  ⟨(pick_ok d hb h0 h1).1, _, _, rfl, (pick_ok d hb h0 h1).2⟩
theorem net1 (n : Nat) (hn : n ≤ 10) (mu : Bool) (part : Int × Int) (hp : 0 < part.2 ∧ part.2 < 1073741824) (i j : Int) (hi : 0 ≤ i ∧ i < n) (hj : 0 ≤ j ∧ j < n) (s : List Int × Wy) (h : BoxOk s.1 ∧ Ok mu n (i * 10 + j) s.2) :
    S__law_net_1 mu part i j s ∧ BoxOk (T__law_net_1 mu part i j s).1 ∧ Ok mu n (i * 10 + j + 1) (T__law_net_1 mu part i j s).2 := by
  obtain ⟨hb, ho⟩ := h
  have tk := take_ok hb hp.1 hp.2
  have hl := ho.len
  have hT : ∀ c : Bool, (c = true → if mu then i < j else i ≠ j) → BoxOk (if (c && (decide ((T__law_take s.1 part.2).1 < part.1))) = true then ((if c = true then (T__law_take s.1 part.2).2 else s.1), TM.ext mu i j s.2) else ((if c = true then (T__law_take s.1 part.2).2 else s.1), s.2)).1 ∧ Ok mu n (i * 10 + j + 1) (if (c && (decide ((T__law_take s.1 part.2).1 < part.1))) = true then ((if c = true then (T__law_take s.1 part.2).2 else s.1), TM.ext mu i j s.2) else ((if c = true then (T__law_take s.1 part.2).2 else s.1), s.2)).2 := by
    intro c hc
    cases c with
    | false => exact ⟨hb, ho.up (by omega)⟩
    | true =>
      cases decide ((T__law_take s.1 part.2).1 < part.1) with
      | false => exact ⟨tk.2.1, ho.up (by omega)⟩
      | true => exact ⟨tk.2.1, ho.ext hi hj (hc rfl)⟩
  refine ⟨⟨fun _ => tk.1, fun _ => ⟨fun _ => ?_, fun _ => ?_⟩⟩, ?_⟩
  · refine sl_of ?_
    show s.2.length + 2 ≤ _
    omega
  · refine sl_of ?_
    show s.2.length + 1 ≤ _
    omega
  · refine hT _ fun hc => ?_
    cases mu with
    | true => exact of_decide_eq_true hc
    | false =>
      have hc : (!(decide (i = j))) = true := hc
      show ¬ i = j
      intro z
      rw [decide_eq_true z] at hc
      cases hc
theorem net3 (n : Nat) (hn : n ≤ 10) (mu : Bool) (part : Int × Int) (hp : 0 < part.2 ∧ part.2 < 1073741824) (i : Nat) (hi : i < n) (s : List Int × Wy) (h : BoxOk s.1 ∧ Ok mu n ((i : Int) * 10) s.2) :
    S__law_net_3 (n : Int) mu part (i : Int) s ∧ BoxOk (T__law_net_3 (n : Int) mu part (i : Int) s).1 ∧ Ok mu n (((i + 1 : Nat) : Int) * 10) (T__law_net_3 (n : Int) mu part (i : Int) s).2 := by
  have L := for_rg (S := fun (two1 : Int) (s2 : (List Int) × (List (Int × Int))) => S__law_net_1 mu part (i : Int) two1 s2) (b := fun (two1 : Int) (s2 : (List Int) × (List (Int × Int))) => T__law_net_1 mu part (i : Int) two1 s2)
    (fun k s => BoxOk s.1 ∧ Ok mu n ((i : Int) * 10 + (k : Nat)) s.2) (s := (s.1, s.2)) n (fun j hj s h => by
      have := net1 n hn mu part hp i j (by omega) (by omega) s h
      refine ⟨this.1, this.2.1, ?_⟩
      have e : (i : Int) * 10 + ((j + 1 : Nat) : Int) = (i : Int) * 10 + (j : Nat) + 1 := by omega
      rw [e]; exact this.2.2) ⟨h.1, by simpa using h.2⟩
  exact ⟨⟨sm_of (by omega) (by omega), L.1⟩, L.2.1, L.2.2.up (by omega)⟩
theorem net_ex {box : List Int} (n : Nat) (hn : n ≤ 10) (mu : Bool) (hb : BoxOk box) : S__law_net box (n : Int) mu ∧ ∃ ws b', T__law_net box (n : Int) mu = (((n : Int), ws), b') ∧ BoxOk b' ∧ NetOk n ws := by
  obtain ⟨sp, part, b1, ep, hb1, hm⟩ := pick_ex (xs := ([((1 : Int), (1 : Int)), ((1 : Int), (2 : Int)), ((2 : Int), (3 : Int)), ((1 : Int), (3 : Int))] : List (Int × Int))) (0, 0) hb (by simp) (by simp)
  have hp : 0 < part.2 ∧ part.2 < 1073741824 := by
    simp only [List.mem_cons, List.not_mem_nil, or_false] at hm
    rcases hm with rfl | rfl | rfl | rfl <;> decide
  have L := for_rg (S := fun (one1 : Int) (s1 : (List Int) × (List (Int × Int))) => S__law_net_3 (n : Int) mu part one1 s1) (b := fun (one1 : Int) (s1 : (List Int) × (List (Int × Int))) => T__law_net_3 (n : Int) mu part one1 s1)
    (fun k s => BoxOk s.1 ∧ Ok mu n ((k : Int) * 10) s.2) (s := (b1, [])) n (fun i hi s h => net3 n hn mu part hp i hi s h) ⟨hb1, Ok.nil mu n⟩
  obtain ⟨LS, LB, LO⟩ := L
  have hl := LO.len
  have hl2 : (forF (fun (one1 : Int) (s1 : (List Int) × (List (Int × Int))) => T__law_net_3 (n : Int) mu part one1 s1) (rg (n : Int)) (b1, [])).2.length ≤ 200 := by omega
  refine ⟨⟨sp, ?_⟩, ?_⟩
  · rw [ep]
    exact ⟨sm_of (by omega) (by omega), LS, sl_of (Nat.le_trans hl2 (by decide))⟩
  · unfold T__law_net
    rw [ep]
    refine ⟨_, _, rfl, LB, (srt_perm _ _).nodup_iff.mpr LO.nd, fun w hw => LO.rng w (mem_srt.mp hw), ?_⟩
    rw [srt_len]
    exact Nat.lt_of_le_of_lt hl2 (by decide)
end K02

/-! the two drawn houses -/
namespace K02
open PySem PySem.Spec
open PyProof.Rows hiding St
open L2 EE TM
theorem ends_ex {box : List Int} (n : Nat) (h2 : 2 ≤ n) (hn : n ≤ 1000) (ws : Wy) (hb : BoxOk box) : S__law_ends box ((n : Int), ws) ∧ ∃ a c b', T__law_ends box ((n : Int), ws) = ((a, c), b') ∧ BoxOk b' ∧ (0 ≤ a ∧ a < n) ∧ (0 ≤ c ∧ c < n) ∧ a ≠ c := by
  let J : Int × Int → Prop := fun p => (0 ≤ p.1 ∧ p.1 < n) ∧ (0 ≤ p.2 ∧ p.2 < n) ∧ p.1 ≠ p.2
  have L := for_rg (S := fun (one1 : Int) (s1 : (List Int) × (List (Int × Int))) => S__law_ends_2 ((n : Int), ws) one1 s1) (b := fun (one1 : Int) (s1 : (List Int) × (List (Int × Int))) => T__law_ends_2 ((n : Int), ws) one1 s1)
    (fun k s => BoxOk s.1 ∧ s.2.length ≤ k ∧ ∀ p ∈ s.2, J p) (s := (box, [])) n (fun i hi s h => by
      obtain ⟨st, x, b1, et, hb1, hx⟩ := take_ex (m := (n : Int)) h.1 (by omega) (by omega)
      have hlen := h.2.1
      refine ⟨⟨st, fun _ => slt_of (by omega)⟩, ?_⟩
      show BoxOk (T__law_ends_1 (i : Int) s ((T__law_take s.1 (n : Int)).2) ((T__law_take s.1 (n : Int)).1)).1 ∧ (T__law_ends_1 (i : Int) s ((T__law_take s.1 (n : Int)).2) ((T__law_take s.1 (n : Int)).1)).2.length ≤ i + 1 ∧ ∀ p ∈ (T__law_ends_1 (i : Int) s ((T__law_take s.1 (n : Int)).2) ((T__law_take s.1 (n : Int)).1)).2, J p
      rw [et]
      unfold T__law_ends_1
      split
      · rename_i hc
        refine ⟨hb1, by simp; omega, fun p hp => ?_⟩
        rcases List.mem_append.mp hp with hp | hp
        · exact h.2.2 p hp
        · rw [List.mem_singleton.mp hp]
          refine ⟨⟨by show (0 : Int) ≤ (i : Int); omega, by show (i : Int) < n; omega⟩, hx, fun z => ?_⟩
          have z : (i : Int) = x := z
          rw [show decide ((i : Int) = x) = true from decide_eq_true z] at hc
          cases hc
      · exact ⟨hb1, by show s.2.length ≤ _; omega, h.2.2⟩) ⟨hb, Nat.le_refl _, fun p hp => nomatch hp⟩
  obtain ⟨LS, LB, LL, LJ⟩ := L
  have key : ∀ s : List Int × Wy, BoxOk s.1 → s.2.length ≤ n → (∀ p ∈ s.2, J p) → ∀ far : Wy, (∀ p ∈ far, J p) → far.length ≤ n → S__law_ends_3 s far ∧ ∃ a c b', T__law_ends_3 s far = ((a, c), b') ∧ BoxOk b' ∧ J (a, c) := by
    intro s h1 h3 h4 far h5 h6
    by_cases he : s.2 = []
    · refine ⟨fun z => absurd he (of_decide_eq_false z), 0, 1, s.1, ?_, h1, ⟨by show (0 : Int) ≤ 0 ∧ (0 : Int) < n; omega, by show (0 : Int) ≤ 1 ∧ (1 : Int) < n; omega, by decide⟩⟩
      unfold T__law_ends_3
      rw [if_pos (decide_eq_true he)]
    · have hf : (if (!(decide (far = ([] : List (Int × Int))))) = true then far else s.2) ≠ [] ∧ (if (!(decide (far = ([] : List (Int × Int))))) = true then far else s.2).length ≤ n ∧ ∀ p ∈ (if (!(decide (far = ([] : List (Int × Int))))) = true then far else s.2), J p := by
        split
        · rename_i hc
          refine ⟨fun z => ?_, h6, h5⟩
          rw [decide_eq_true z] at hc
          cases hc
        · exact ⟨he, h3, h4⟩
      obtain ⟨s1, x1, b1, e1, k1, m1⟩ := pick_ex (0, 0) h1 hf.1 (by omega)
      obtain ⟨s2, x2, b2, e2, k2, m2⟩ := pick_ex (0, 0) k1 he (by omega)
      obtain ⟨s3, x3, b3, e3, k3, m3⟩ := pick_ex (xs := [x1, x2]) ((0 : Int), (0 : Int)) k2 (by simp) (by simp)
      have j3 : J x3 := by
        simp only [List.mem_cons, List.not_mem_nil, or_false] at m3
        rcases m3 with rfl | rfl
        · exact hf.2.2 _ m1
        · exact h4 _ m2
      refine ⟨fun _ => ⟨s1, ?_, ?_⟩, x3.1, x3.2, b3, ?_, k3, j3⟩
      · rw [e1]; exact s2
      · rw [e1, e2]; exact s3
      · unfold T__law_ends_3
        rw [if_neg (show ¬ decide (s.2 = ([] : List (Int × Int))) = true from fun z => he (of_decide_eq_true z)), e1, e2, e3]
  obtain ⟨k1, k2⟩ := key _ LB LL LJ (((forF (fun (one1 : Int) (s1 : (List Int) × (List (Int × Int))) => T__law_ends_2 ((n : Int), ws) one1 s1) (rg (n : Int)) (box, [])).2.filter fun (pair1 : Int × Int) => (!(memB pair1 ws))).map fun (pair1 : Int × Int) => pair1) (fun p hp => by
    rw [List.map_id'] at hp
    exact LJ p (List.mem_filter.mp hp).1) (by
    rw [List.map_id']
    exact Nat.le_trans (List.length_filter_le _ _) LL)
  exact ⟨⟨sm_of (by omega) (by omega), LS, sl_of (Nat.le_trans LL (by omega)), k1⟩, k2⟩
end K02

/-! lots of houses, the drawn liars -/
namespace K02
open PySem PySem.Spec
open PyProof.Rows hiding St
open L2 EE TM
abbrev Lt := List (List Int)
theorem within_iff {a b : List Int} : T__law_within a b = true ↔ ∀ x ∈ a, x ∈ b := by
  unfold T__law_within
  rw [nil_fm]
  constructor
  · intro h x hx
    have := h x hx
    rw [Bool.not_eq_false', memB_iff] at this
    exact this
  · intro h x hx
    rw [Bool.not_eq_false', memB_iff]
    exact h x hx
theorem greatest_ok {ls : Lt} (h : ls.length < 64) (hl : ∀ l ∈ ls, l.length ≤ 1000) : S__law_greatest ls ∧ (∀ l ∈ T__law_greatest ls, l ∈ ls) ∧ (T__law_greatest ls).length < 64 := by
  have h1 := sset_len (cT cI) ls
  refine ⟨⟨h, sl_of (by omega), fun a ha => ⟨sl_of (by omega), fun b hb _ => sl_of ?_⟩⟩, fun l hl => ?_, ?_⟩
  · have := hl a (mem_sset.mp ha)
    omega
  · unfold T__law_greatest T__law_greatest_1 at hl
    rw [List.map_id'] at hl
    exact mem_sset.mp (List.mem_filter.mp hl).1
  · unfold T__law_greatest T__law_greatest_1
    rw [List.map_id']
    exact Nat.lt_of_le_of_lt (List.length_filter_le _ _) (by omega)
theorem greatest_ne {n : Nat} {ls : Lt} (h : ls ≠ []) (hl : ∀ l ∈ ls, l.Sublist (rg (n : Int))) : T__law_greatest ls ≠ [] := by
  have hu : sset (cT cI) ls ≠ [] := by
    cases ls with
    | nil => exact absurd rfl h
    | cons l ls => exact List.ne_nil_of_mem (mem_sset.mpr (List.mem_cons_self (a := l) (l := ls)))
  obtain ⟨a, ha, hm⟩ := ex_max List.length hu
  refine List.ne_nil_of_mem (a := a) ?_
  unfold T__law_greatest T__law_greatest_1
  rw [List.map_id', List.mem_filter]
  refine ⟨ha, ?_⟩
  rw [nil_fm]
  intro b hb
  cases hc : T__law_within a b with
  | false => rw [Bool.and_false]
  | true =>
    have e := sub_len (hl a (mem_sset.mp ha)) (hl b (mem_sset.mp hb)) (within_iff.mp hc) (hm b hb)
    rw [decide_eq_true e]; rfl
theorem drawn_ex {box : List Int} {hs : List Int} {part : Int} (hb : BoxOk box) (h0 : 0 < part) (h1 : part < 1073741824) (hl : hs.length < 1000) : S__law_drawn_lot box hs part ∧ ∃ l b', T__law_drawn_lot box hs part = (l, b') ∧ BoxOk b' ∧ l.Sublist hs := by
  have key : ∀ (xs : List Int) (b : List Int), BoxOk b → lcSX (fun (house1 : Int) (s1 : List Int) => (S__law_take s1 part)) (fun (house1 : Int) (s1 : List Int) => if (decide ((T__law_take s1 part).1 = (0 : Int))) = true then (some house1, (T__law_take s1 part).2) else (none, (T__law_take s1 part).2)) xs b ∧
      BoxOk (lcX (fun (house1 : Int) (s1 : List Int) => if (decide ((T__law_take s1 part).1 = (0 : Int))) = true then (some house1, (T__law_take s1 part).2) else (none, (T__law_take s1 part).2)) xs b).2 ∧
      (lcX (fun (house1 : Int) (s1 : List Int) => if (decide ((T__law_take s1 part).1 = (0 : Int))) = true then (some house1, (T__law_take s1 part).2) else (none, (T__law_take s1 part).2)) xs b).1.Sublist xs := by
    intro xs
    induction xs with
    | nil => intro b hb; exact ⟨trivial, hb, List.Sublist.slnil⟩
    | cons x xs ih =>
      intro b hb
      obtain ⟨st, r, b1, et, hb1, _⟩ := take_ex hb h0 h1
      by_cases hr : r = 0
      · have e : (if (decide ((T__law_take b part).1 = (0 : Int))) = true then (some x, (T__law_take b part).2) else (none, (T__law_take b part).2)) = (some x, b1) := by
          rw [et, if_pos (decide_eq_true hr)]
        obtain ⟨i1, i2, i3⟩ := ih b1 hb1
        refine ⟨⟨st, ?_⟩, ?_, ?_⟩
        · show lcSX _ _ xs (if (decide ((T__law_take b part).1 = (0 : Int))) = true then (some x, (T__law_take b part).2) else (none, (T__law_take b part).2)).2
          rw [e]; exact i1
        · rw [lcX, e]; exact i2
        · rw [lcX, e]; exact i3.cons₂ x
      · have e : (if (decide ((T__law_take b part).1 = (0 : Int))) = true then (some x, (T__law_take b part).2) else (none, (T__law_take b part).2)) = (none, b1) := by
          rw [et, if_neg (show ¬ decide (r = 0) = true from fun z => hr (of_decide_eq_true z))]
        obtain ⟨i1, i2, i3⟩ := ih b1 hb1
        refine ⟨⟨st, ?_⟩, ?_, ?_⟩
        · show lcSX _ _ xs (if (decide ((T__law_take b part).1 = (0 : Int))) = true then (some x, (T__law_take b part).2) else (none, (T__law_take b part).2)).2
          rw [e]; exact i1
        · rw [lcX, e]; exact i2
        · rw [lcX, e]; exact i3.cons x
  obtain ⟨k1, k2, k3⟩ := key hs box hb
  exact ⟨⟨sl_of (by omega), k1⟩, _, _, rfl, k2, k3⟩
structure LiarsOk (n : Nat) (ls : Lt) : Prop where
  sub : ∀ l ∈ ls, l.Sublist (rg (n : Int))
  few : ls.length < 64
  ne : ls ≠ []
theorem LiarsOk.len {n : Nat} {ls : Lt} (h : LiarsOk n ls) : ∀ l ∈ ls, l.length ≤ n := fun l hl => by
  have := (h.sub l hl).length_le
  rw [rg_len] at this
  exact this
theorem LiarsOk.rng {n : Nat} {ls : Lt} (h : LiarsOk n ls) : ∀ l ∈ ls, ∀ x ∈ l, 0 ≤ x ∧ x < n := fun l hl x hx => mem_rg.mp ((h.sub l hl).subset hx)
/-- the lots of one size, told house by house -/
theorem sized (n : Nat) (hn : n ≤ 10) (size : Int) : forSF (fun (house1 : Int) (s1 : List (List Int)) => S__law_liars_1 size house1 s1) (fun (house1 : Int) (s1 : List (List Int)) => T__law_liars_1 size house1 s1) (rg (n : Int)) [[]] ∧
    (∀ l ∈ forF (fun (house1 : Int) (s1 : List (List Int)) => T__law_liars_1 size house1 s1) (rg (n : Int)) [[]], l.Sublist (rg (n : Int))) ∧ (forF (fun (house1 : Int) (s1 : List (List Int)) => T__law_liars_1 size house1 s1) (rg (n : Int)) [[]]).length ≤ 1024 ∧ ∀ q : Nat, q ≤ n → (q : Int) ≤ size → rg (q : Int) ∈ forF (fun (house1 : Int) (s1 : List (List Int)) => T__law_liars_1 size house1 s1) (rg (n : Int)) [[]] := by
  have L := for_rg (S := fun (house1 : Int) (s1 : List (List Int)) => S__law_liars_1 size house1 s1) (b := fun (house1 : Int) (s1 : List (List Int)) => T__law_liars_1 size house1 s1)
    (fun k s => (∀ l ∈ s, l.Sublist (rg (k : Int))) ∧ s.length ≤ 2 ^ k ∧ ∀ q : Nat, q ≤ k → (q : Int) ≤ size → rg (q : Int) ∈ s) (s := [[]]) n (fun i hi s h => by
      have p : (2 : Nat) ^ i ≤ 2 ^ 10 := Nat.pow_le_pow_right (by decide) (by omega)
      have p10 : (2 : Nat) ^ 10 = 1024 := by decide
      have hh := h.2.1
      have fl : (s.filter fun (one1 : List Int) => (decide ((one1.length : Int) < size))).length ≤ s.length := List.length_filter_le _ _
      refine ⟨⟨sl_of (by omega), fun l hl _ => sl_of ?_, sl_of ?_⟩, fun l hl => ?_, ?_, fun q hq hqs => ?_⟩
      · have := (h.1 l hl).length_le
        rw [rg_len] at this
        show l.length + 1 ≤ _
        omega
      · rw [List.length_map]; omega
      · have hl : l ∈ s ++ ((s.filter fun (one1 : List Int) => (decide ((one1.length : Int) < size))).map fun (one1 : List Int) => (one1 ++ ([(i : Int)] : List Int))) := hl
        have e : rg ((i + 1 : Nat) : Int) = rg (i : Int) ++ [(i : Int)] := by rw [rg_nat, rg_nat, rgF_succ]
        rw [e]
        rcases List.mem_append.mp hl with hl | hl
        · exact (h.1 l hl).trans (List.sublist_append_left _ _)
        · obtain ⟨q, hq, rfl⟩ := List.mem_map.mp hl
          exact (h.1 q (List.mem_filter.mp hq).1).append (List.Sublist.refl _)
      · show (s ++ ((s.filter fun (one1 : List Int) => (decide ((one1.length : Int) < size))).map fun (one1 : List Int) => (one1 ++ ([(i : Int)] : List Int)))).length ≤ 2 ^ (i + 1)
        rw [List.length_append, List.length_map, Nat.pow_succ]
        omega
      · show rg (q : Int) ∈ s ++ ((s.filter fun (one1 : List Int) => (decide ((one1.length : Int) < size))).map fun (one1 : List Int) => (one1 ++ ([(i : Int)] : List Int)))
        by_cases hqi : q ≤ i
        · exact List.mem_append_left _ (h.2.2 q hqi hqs)
        · have e : q = i + 1 := by omega
          subst e
          refine List.mem_append_right _ (List.mem_map.mpr ⟨rg (i : Int), List.mem_filter.mpr ⟨h.2.2 i (by omega) (by omega), decide_eq_true ?_⟩, by rw [rg_nat, rg_nat, rgF_succ]⟩)
          rw [rg_len]; omega) ⟨fun l hl => by rw [List.mem_singleton.mp hl]; exact List.nil_sublist _, by decide, fun q hq _ => by
        have : q = 0 := by omega
        subst this
        exact List.mem_cons_self⟩
  obtain ⟨L1, L2, L3, L4⟩ := L
  have p : (2 : Nat) ^ n ≤ 2 ^ 10 := Nat.pow_le_pow_right (by decide) (by omega)
  have p10 : (2 : Nat) ^ 10 = 1024 := by decide
  exact ⟨L1, L2, by omega, L4⟩
theorem liars_ex {box : List Int} (n : Nat) (hn : n ≤ 10) (hb : BoxOk box) : S__law_liars box (n : Int) ∧ ∃ ls b', T__law_liars box (n : Int) = (ls, b') ∧ BoxOk b' ∧ LiarsOk n ls := by
  obtain ⟨s1, way, b1, e1, k1, w0, w1⟩ := take_ex (m := 8) hb (by omega) (by omega)
  have gl : ∀ ls : Lt, (∀ l ∈ ls, l.Sublist (rg (n : Int))) → ls.length < 64 → ls ≠ [] → S__law_greatest ls ∧ LiarsOk n (T__law_greatest ls) := by
    intro ls h1 h2 h3
    obtain ⟨g1, g2, g3⟩ := greatest_ok h2 (fun l hl => by
      have := (h1 l hl).length_le
      rw [rg_len] at this
      omega)
    exact ⟨g1, fun l hl => h1 l (g2 l hl), g3, greatest_ne h3 h1⟩
  have key : S__law_liars_6 (n : Int) b1 (rg (n : Int)) way ∧ ∃ ls b', T__law_liars_6 (n : Int) b1 (rg (n : Int)) way = (ls, b') ∧ BoxOk b' ∧ LiarsOk n ls := by
    by_cases c0 : way = 0
    · refine ⟨fun z => absurd c0 (of_decide_eq_false z), [[]], b1, ?_, k1, fun l hl => by rw [List.mem_singleton.mp hl]; exact List.nil_sublist _, by decide, by simp⟩
      unfold T__law_liars_6
      rw [if_pos (decide_eq_true c0)]
    · have d0 : ¬ decide (way = 0) = true := fun z => c0 (of_decide_eq_true z)
      by_cases c1 : way < 3
      · obtain ⟨s2, size, b2, e2, k2, z0, z1⟩ := take_ex (m := (n : Int) + 1) k1 (by omega) (by omega)
        obtain ⟨z1, z2, z3, z4⟩ := sized n hn size
        obtain ⟨g1, g2⟩ := gl (cutF (((forF (fun (house1 : Int) (s1 : List (List Int)) => T__law_liars_1 size house1 s1) (rg (n : Int)) [[]]).filter fun (one2 : List Int) => (decide ((one2.length : Int) = size))).map fun (one2 : List Int) => one2) none (some (40 : Int))) (fun l hl => by
            have hl : l ∈ cutF _ none (some ((40 : Nat) : Int)) := hl
            rw [cutF_hi, List.map_id'] at hl
            exact z2 l (List.mem_filter.mp (List.mem_of_mem_take hl)).1) (by
            show (cutF _ none (some ((40 : Nat) : Int))).length < 64
            rw [cutF_hi, List.length_take]; omega) (by
            show cutF _ none (some ((40 : Nat) : Int)) ≠ []
            rw [cutF_hi, List.map_id']
            have hm : rg ((size.toNat : Nat) : Int) ∈ (forF (fun (house1 : Int) (s1 : List (List Int)) => T__law_liars_1 size house1 s1) (rg (n : Int)) [[]]).filter fun (one2 : List Int) => (decide ((one2.length : Int) = size)) := List.mem_filter.mpr ⟨z4 size.toNat (by omega) (by omega), decide_eq_true (by rw [rg_len]; omega)⟩
            cases hf : (forF (fun (house1 : Int) (s1 : List (List Int)) => T__law_liars_1 size house1 s1) (rg (n : Int)) [[]]).filter fun (one2 : List Int) => (decide ((one2.length : Int) = size)) with
            | nil => rw [hf] at hm; cases hm
            | cons a r => simp)
        refine ⟨fun _ => ⟨fun _ => ⟨s2, ?_⟩, fun z => absurd c1 (of_decide_eq_false z)⟩, ?_⟩
        · rw [e2]
          exact ⟨z1, sl_of (Nat.le_trans z3 (by decide)), g1⟩
        · unfold T__law_liars_6
          rw [if_neg d0, if_pos (decide_eq_true c1), e2]
          exact ⟨_, _, rfl, k2, g2⟩
      · have d1 : ¬ decide (way < 3) = true := fun z => c1 (of_decide_eq_true z)
        obtain ⟨s2, m, b2, e2, k2, m0, m5⟩ := take_ex (m := 5) k1 (by omega) (by omega)
        obtain ⟨q, hq⟩ : ∃ q : Nat, 1 + m = ((q + 1 : Nat) : Int) := ⟨m.toNat, by omega⟩
        have step : ∀ s : List Int, BoxOk s → ((S__law_pick s ([(2 : Int), (3 : Int), (4 : Int)] : List Int)) ∧ (S__law_drawn_lot ((T__law_pick s ([(2 : Int), (3 : Int), (4 : Int)] : List Int) 0).2) (rg (n : Int)) ((T__law_pick s ([(2 : Int), (3 : Int), (4 : Int)] : List Int) 0).1))) ∧
            BoxOk (T__law_drawn_lot ((T__law_pick s ([(2 : Int), (3 : Int), (4 : Int)] : List Int) 0).2) (rg (n : Int)) ((T__law_pick s ([(2 : Int), (3 : Int), (4 : Int)] : List Int) 0).1)).2 ∧ (T__law_drawn_lot ((T__law_pick s ([(2 : Int), (3 : Int), (4 : Int)] : List Int) 0).2) (rg (n : Int)) ((T__law_pick s ([(2 : Int), (3 : Int), (4 : Int)] : List Int) 0).1)).1.Sublist (rg (n : Int)) := by
          intro s hs
          obtain ⟨s3, p, b3, e3, k3, hp⟩ := pick_ex (xs := ([(2 : Int), (3 : Int), (4 : Int)] : List Int)) 0 hs (by simp) (by simp)
          have hp : 0 < p ∧ p < 1073741824 := by
            simp only [List.mem_cons, List.not_mem_nil, or_false] at hp
            omega
          obtain ⟨s4, l, b4, e4, k4, hl⟩ := drawn_ex (hs := rg (n : Int)) k3 hp.1 hp.2 (by rw [rg_len]; omega)
          rw [e3]
          refine ⟨⟨s3, s4⟩, ?_⟩
          rw [e4]
          exact ⟨k4, hl⟩
        have I1 := lcSX_of (S := fun (turn1 : Int) (s2 : List Int) => (S__law_pick s2 ([(2 : Int), (3 : Int), (4 : Int)] : List Int)) ∧ (S__law_drawn_lot ((T__law_pick s2 ([(2 : Int), (3 : Int), (4 : Int)] : List Int) 0).2) (rg (n : Int)) ((T__law_pick s2 ([(2 : Int), (3 : Int), (4 : Int)] : List Int) 0).1)))
          (b := fun (turn1 : Int) (s2 : List Int) => (some ((T__law_drawn_lot ((T__law_pick s2 ([(2 : Int), (3 : Int), (4 : Int)] : List Int) 0).2) (rg (n : Int)) ((T__law_pick s2 ([(2 : Int), (3 : Int), (4 : Int)] : List Int) 0).1)).1), (T__law_drawn_lot ((T__law_pick s2 ([(2 : Int), (3 : Int), (4 : Int)] : List Int) 0).2) (rg (n : Int)) ((T__law_pick s2 ([(2 : Int), (3 : Int), (4 : Int)] : List Int) 0).1)).2))
          BoxOk (rg ((q + 1 : Nat) : Int)) b2 (fun x _ s hs => ⟨(step s hs).1, (step s hs).2.1⟩) k2
        have I2 := lcX_inv (b := fun (turn1 : Int) (s2 : List Int) => (some ((T__law_drawn_lot ((T__law_pick s2 ([(2 : Int), (3 : Int), (4 : Int)] : List Int) 0).2) (rg (n : Int)) ((T__law_pick s2 ([(2 : Int), (3 : Int), (4 : Int)] : List Int) 0).1)).1), (T__law_drawn_lot ((T__law_pick s2 ([(2 : Int), (3 : Int), (4 : Int)] : List Int) 0).2) (rg (n : Int)) ((T__law_pick s2 ([(2 : Int), (3 : Int), (4 : Int)] : List Int) 0).1)).2))
          BoxOk (fun l => l.Sublist (rg (n : Int))) (rg ((q + 1 : Nat) : Int)) b2 (fun x _ s hs => ⟨(step s hs).2.1, fun y hy => by injection hy with hy; rw [← hy]; exact (step s hs).2.2⟩) k2
        have qn : (rg ((q + 1 : Nat) : Int)).length < 64 := by rw [rg_len]; omega
        obtain ⟨g1, g2⟩ := gl _ I2.2.1 (Nat.lt_of_le_of_lt I2.2.2 qn) (lcX_ne (fun s => ⟨_, rfl⟩) (by rw [rg_nat, rgF_succ]; simp))
        refine ⟨fun _ => ⟨fun z => absurd (of_decide_eq_true z) c1, fun _ => ⟨s2, ?_⟩⟩, ?_⟩
        · rw [e2]
          refine ⟨sm_of (by show _ ≤ 1 + m; omega) (by show 1 + m ≤ _; omega), ?_⟩
          rw [hq]
          exact ⟨sl_of (Nat.le_trans (Nat.le_of_lt qn) (by decide)), I1, g1⟩
        · unfold T__law_liars_6
          rw [if_neg d0, if_neg d1, e2, hq]
          exact ⟨_, _, rfl, I2.1, g2⟩
  refine ⟨⟨rgS_of (by omega) (by omega) (by omega) (by omega), s1, ?_⟩, ?_⟩
  · rw [e1]; exact key.1
  · unfold T__law_liars
    rw [e1]; exact key.2
end K02

/-! lots that meet the trails: the program's and the law's hop cut -/
namespace K02
open PySem PySem.Spec
open PyProof.Rows hiding St
open L2 EE TM
theorem like_lk {α : Type} {c : Cd α} {a : α} {N : Nat} (h : Lk c a 60 N) (hn : N < 1000000) : S__law_like c a a := ⟨rfl, Nat.lt_of_le_of_lt h.sz hn, h.tp⟩
/-- every row meets one of the lots -/
def Meets (rows lots : Lt) : Prop := ∀ r ∈ rows, ∃ x ∈ r, ∃ l ∈ lots, x ∈ l
theorem meets_iff {rows lots : Lt} : T__law_meets rows lots = true ↔ Meets rows lots := by
  unfold T__law_meets Meets
  rw [nil_fm]
  refine forall_congr' fun r => imp_congr_right fun _ => ?_
  rw [nil_fm_f]
  refine exists_congr fun x => and_congr_right fun _ => ?_
  rw [not_nil_fm]
  refine exists_congr fun l => and_congr_right fun _ => ?_
  exact memB_iff
theorem mem_less {a b : List Int} {x : Int} : x ∈ T__law_less a b ↔ x ∈ a ∧ x ∉ b := by
  unfold T__law_less
  rw [List.map_id', List.mem_filter]
  exact and_congr_right fun _ => nmemB
theorem less_sub (a b : List Int) : (T__law_less a b).Sublist a := by
  unfold T__law_less
  rw [List.map_id']
  exact List.filter_sublist
/-- two of the liars' lots, without the ends, that meet all rows -/
structure Due (ls : Lt) (s e : Int) (rows : Lt) (p : List Int × List Int) : Prop where
  one : ∃ l ∈ ls, p.1.Sublist l ∧ ∀ x, x ∈ p.1 ↔ x ∈ l ∧ x ≠ s ∧ x ≠ e
  two : ∃ l ∈ ls, p.2.Sublist l ∧ ∀ x, x ∈ p.2 ↔ x ∈ l ∧ x ∉ p.1 ∧ x ≠ s ∧ x ≠ e
  meets : Meets rows [p.1, p.2]
theorem mem_se {x s e : Int} : x ∉ ([s, e] : List Int) ↔ x ≠ s ∧ x ≠ e := by simp
theorem hop_due (ls : Lt) (s e : Int) (rows : Lt) : (∃ p, T__law_hop_cut_7 ls s e rows = some p ∧ Due ls s e rows p) ∨ (T__law_hop_cut_7 ls s e rows = none ∧ ∀ i j : Nat, i ≤ j → ∀ a b, ls[i]? = some a → ls[j]? = some b → ¬ Meets rows [T__law_less a [s, e], T__law_less b (T__law_less a [s, e] ++ [s, e])]) := by
  have in2 : ∀ a o, T__law_hop_cut_2 s e rows a o = .nx () ∧ ¬ Meets rows [a, T__law_less o (a ++ [s, e])] ∨ T__law_hop_cut_2 s e rows a o = .rt (.rt (some (a, T__law_less o (a ++ [s, e])))) ∧ Meets rows [a, T__law_less o (a ++ [s, e])] := by
    intro a o
    by_cases h : T__law_meets rows [a, T__law_less o (a ++ [s, e])] = true
    · exact .inr ⟨by show (if _ then _ else _) = _; rw [if_pos h], meets_iff.mp h⟩
    · exact .inl ⟨by show (if _ then _ else _) = _; rw [if_neg h], fun z => h (meets_iff.mpr z)⟩
  have in5 : ∀ x : Int × List Int, (T__law_hop_cut_5 ls s e rows x = .nx () ∧ ∀ o ∈ cutF ls (some x.1) none, ¬ Meets rows [T__law_less x.2 [s, e], T__law_less o (T__law_less x.2 [s, e] ++ [s, e])]) ∨
      ∃ o ∈ cutF ls (some x.1) none, T__law_hop_cut_5 ls s e rows x = .rt (some (T__law_less x.2 [s, e], T__law_less o (T__law_less x.2 [s, e] ++ [s, e]))) ∧ Meets rows [T__law_less x.2 [s, e], T__law_less o (T__law_less x.2 [s, e] ++ [s, e])] := by
    intro x
    rcases forB_rt (b := fun (other1 : List Int) (s2 : Unit) => T__law_hop_cut_2 s e rows (T__law_less x.2 [s, e]) other1) (s := ()) (cutF ls (some x.1) none) (fun o _ => by
      rcases in2 (T__law_less x.2 [s, e]) o with h | h
      · exact .inl h.1
      · exact .inr ⟨_, h.1⟩) with ⟨h1, h2⟩ | ⟨o, ho, m, h1, h2⟩
    · refine .inl ⟨?_, fun o ho => ?_⟩
      · show (forB (fun (other1 : List Int) (s2 : Unit) => T__law_hop_cut_2 s e rows (T__law_less x.2 [s, e]) other1) (cutF ls (some x.1) none) ()).to _ = _
        rw [h1]; rfl
      · have h3 := h2 o ho
        rcases in2 (T__law_less x.2 [s, e]) o with h | h
        · exact h.2
        · have h3 : T__law_hop_cut_2 s e rows (T__law_less x.2 [s, e]) o = .nx () := h3
          rw [h.1] at h3; cases h3
    · refine .inr ⟨o, ho, ?_⟩
      have h1 : T__law_hop_cut_2 s e rows (T__law_less x.2 [s, e]) o = .rt m := h1
      rcases in2 (T__law_less x.2 [s, e]) o with h | h
      · rw [h.1] at h1; cases h1
      · rw [h.1] at h1
        injection h1 with h1
        subst h1
        refine ⟨?_, h.2⟩
        show (forB (fun (other1 : List Int) (s2 : Unit) => T__law_hop_cut_2 s e rows (T__law_less x.2 [s, e]) other1) (cutF ls (some x.1) none) ()).to _ = _
        rw [h2]; rfl
  rcases forB_rt (b := fun (x1 : Int × (List Int)) (s1 : Unit) => T__law_hop_cut_5 ls s e rows x1) (s := ()) (enumF 0 ls) (fun x _ => by
    rcases in5 x with h | ⟨o, _, h, _⟩
    · exact .inl h.1
    · exact .inr ⟨_, h⟩) with ⟨h1, h2⟩ | ⟨x, hx, m, h1, h2⟩
  · refine .inr ⟨by show (forB (fun (x1 : Int × (List Int)) (s1 : Unit) => T__law_hop_cut_5 ls s e rows x1) (enumF 0 ls) ()).to _ = _; rw [h1]; rfl, fun i j hij a b ha hb => ?_⟩
    have hm : ((i : Int), a) ∈ enumF 0 ls := mem_enumF.mpr ⟨i, by omega, ha⟩
    have h3 : T__law_hop_cut_5 ls s e rows ((i : Int), a) = .nx () := h2 _ hm
    rcases in5 ((i : Int), a) with h | ⟨o, _, h, _⟩
    · refine h.2 b ?_
      show b ∈ cutF ls (some (i : Int)) none
      rw [cutF_lo]
      refine List.mem_of_getElem? (i := j - i) ?_
      rw [List.getElem?_drop, show i + (j - i) = j by omega]
      exact hb
    · rw [h] at h3; cases h3
  · have h1 : T__law_hop_cut_5 ls s e rows x = .rt m := h1
    rcases in5 x with h | ⟨o, ho, h, hM⟩
    · rw [h.1] at h1; cases h1
    · rw [h] at h1
      injection h1 with h1
      subst h1
      obtain ⟨i, a⟩ := x
      obtain ⟨j, hj, hja⟩ := mem_enumF.mp hx
      have hj : i = (j : Int) := by omega
      subst hj
      have ho : o ∈ cutF ls (some (j : Int)) none := ho
      rw [cutF_lo] at ho
      refine .inl ⟨_, by show (forB (fun (x1 : Int × (List Int)) (s1 : Unit) => T__law_hop_cut_5 ls s e rows x1) (enumF 0 ls) ()).to _ = _; rw [h2]; rfl, ⟨a, List.mem_of_getElem? hja, less_sub _ _, fun x => ?_⟩, ⟨o, List.mem_of_mem_drop ho, less_sub _ _, fun x => ?_⟩, hM⟩
      · show x ∈ T__law_less a [s, e] ↔ _
        rw [mem_less, mem_se]
      · show x ∈ T__law_less o (T__law_less a [s, e] ++ [s, e]) ↔ x ∈ o ∧ x ∉ T__law_less a [s, e] ∧ x ≠ s ∧ x ≠ e
        rw [mem_less, List.mem_append, not_or, mem_se]
/-- found just where two lots, without the ends, meet all rows -/
theorem cut_iff {ls : Lt} {s e : Int} {rows : Lt} : (T__law_hop_cut_7 ls s e rows).isSome = true ↔ ∃ a ∈ ls, ∃ b ∈ ls, ∀ r ∈ rows, ∃ x ∈ r, (x ∈ a ∨ x ∈ b) ∧ x ≠ s ∧ x ≠ e := by
  rcases hop_due ls s e rows with ⟨p, hp, hD⟩ | ⟨hp, hN⟩
  · rw [hp]
    refine ⟨fun _ => ?_, fun _ => rfl⟩
    obtain ⟨a, ha, _, ha3⟩ := hD.one
    obtain ⟨b, hb, _, hb3⟩ := hD.two
    refine ⟨a, ha, b, hb, fun r hr => ?_⟩
    obtain ⟨x, hx, l, hl, hxl⟩ := hD.meets r hr
    simp only [List.mem_cons, List.not_mem_nil, or_false] at hl
    rcases hl with rfl | rfl
    · have := (ha3 x).mp hxl
      exact ⟨x, hx, .inl this.1, this.2⟩
    · have := (hb3 x).mp hxl
      exact ⟨x, hx, .inr this.1, this.2.2⟩
  · rw [hp]
    refine ⟨fun h => (nomatch h), fun ⟨a, ha, b, hb, hM⟩ => ?_⟩
    exfalso
    obtain ⟨i, hi⟩ := List.mem_iff_getElem?.mp ha
    obtain ⟨j, hj⟩ := List.mem_iff_getElem?.mp hb
    have key : ∀ (a b : List Int), (∀ r ∈ rows, ∃ x ∈ r, (x ∈ a ∨ x ∈ b) ∧ x ≠ s ∧ x ≠ e) → Meets rows [T__law_less a [s, e], T__law_less b (T__law_less a [s, e] ++ [s, e])] := by
      intro a b h r hr
      obtain ⟨x, hx, ho, hse⟩ := h r hr
      refine ⟨x, hx, ?_⟩
      by_cases hA : x ∈ T__law_less a [s, e]
      · exact ⟨_, List.mem_cons_self, hA⟩
      · refine ⟨_, List.mem_cons_of_mem _ List.mem_cons_self, mem_less.mpr ⟨?_, ?_⟩⟩
        · rcases ho with ho | ho
          · exact absurd (mem_less.mpr ⟨ho, mem_se.mpr hse⟩) hA
          · exact ho
        · rw [List.mem_append, not_or, mem_se]
          exact ⟨hA, hse⟩
    rcases Nat.le_total i j with h | h
    · exact hN i j h a b hi hj (key a b hM)
    · exact hN j i h b a hj hi (key b a fun r hr => by
        obtain ⟨x, hx, ho, hse⟩ := hM r hr
        exact ⟨x, hx, ho.symm, hse⟩)
theorem hop_SL {n : Nat} (hn : n ≤ 1000) {ls : Lt} (hl : LiarsOk n ls) (s e : Int) {rows : Lt} (hr : rows.length ≤ 1000000) (hr2 : ∀ r ∈ rows, r.length ≤ 1000) : S__law_hop_cut_7 ls s e rows := by
  have ll := hl.len
  have lf := hl.few
  have less2 : ∀ a b : List Int, (T__law_less a b).length ≤ a.length := fun a b => (less_sub a b).length_le
  have cm : ∀ {i : Nat} {o : List Int}, o ∈ cutF ls (some (i : Int)) none → o ∈ ls := fun {i o} h => by
    rw [cutF_lo] at h; exact List.mem_of_mem_drop h
  refine forS_all _ fun x hx => ?_
  obtain ⟨i, a⟩ := x
  obtain ⟨j, hj, hja⟩ := mem_enumF.mp hx
  have hj : i = (j : Int) := by omega
  subst hj
  have ha := ll a (List.mem_of_getElem? hja)
  refine ⟨sl_of (show a.length ≤ _ by omega), forS_all _ fun o ho => ?_⟩
  have ho := ll o (cm ho)
  have h2 := less2 a [s, e]
  refine ⟨sl_of ?_, sl_of (by omega), sl_of (by omega), fun r hr => ⟨sl_of ?_, fun l _ => sl_of (by simp)⟩⟩
  · show (T__law_less a [s, e]).length + 2 ≤ _
    omega
  · have := hr2 r hr; omega
/-- what the drawn net's short trails are -/
theorem lrows_ok {n : Nat} {ws : Wy} (h : NetOk n ws) (hn : n ≤ 6) {s e : Int} (hs : 0 ≤ s ∧ s < n) (m : Nat) (hm : m ≤ n) :
    S__law_trails ((n : Int), ws) s e ∧ S__law_short ((n : Int), ws) s e (m : Nat) ∧ T__law_trails ((n : Int), ws) s e = srt (cT cI) (trB ws e n [s]) ∧ (trB ws e n [s]).length ≤ 46656 ∧ (∀ r ∈ trB ws e n [s], r.length ≤ 7) ∧ ∃ rows, T__law_short ((n : Int), ws) s e (m : Nat) = rows ∧ rows = srt (cT cI) (tr ws e m [s]) ∧ rows.length ≤ 46656 ∧ ∀ r ∈ rows, r.length ≤ 7 := by
  have c1 := small h hn s e m (by omega)
  have c2 := small h hn s e n (by omega)
  have wl := h.len
  have c4 : (trB ws e n [s]).length ≤ 46656 ∧ ∀ r ∈ trB ws e n [s], r.length ≤ 7 := by
    cases n with
    | zero => omega
    | succ n =>
      rw [trB_eq]
      refine ⟨(small h hn s e n (by omega)).2, fun r hr => ?_⟩
      have := tr_up hr
      rw [List.length_singleton] at this
      omega
  obtain ⟨t1, t2⟩ := ltrails_ok n s e ws (by omega) wl (by omega)
  obtain ⟨q1, q2⟩ := lshort_ok n s e ws m (by omega) hm wl (fun w hw => (h.rng w hw).2) hs (by omega) (by omega)
  refine ⟨t1, q1, t2, c4.1, c4.2, _, q2, rfl, by rw [srt_len]; exact c1.2, fun r hr => ?_⟩
  have := tr_up (mem_srt.mp hr)
  rw [List.length_singleton] at this
  omega
/-- the law's hop cut -/
theorem lhop_ok {n : Nat} {ws : Wy} (h : NetOk n ws) (hn : n ≤ 6) {ls : Lt} (hl : LiarsOk n ls) {s e : Int} (hs : 0 ≤ s ∧ s < n) (m : Nat) (hm : m ≤ n) :
    S__law_hop_cut ((n : Int), ws) ls s e (m : Nat) ∧ ∃ rows, T__law_short ((n : Int), ws) s e (m : Nat) = rows ∧ T__law_hop_cut ((n : Int), ws) ls s e (m : Nat) = T__law_hop_cut_7 ls s e rows ∧ rows = srt (cT cI) (tr ws e m [s]) ∧ rows.length ≤ 46656 ∧ ∀ r ∈ rows, r.length ≤ 7 := by
  obtain ⟨_, p2, _, _, _, rows, e2, e3, hr, hr2⟩ := lrows_ok h hn hs m hm (e := e)
  have g2 := hop_SL (n := n) (by omega) hl s e (rows := rows) (by omega) (fun r h => by have := hr2 r h; omega)
  refine ⟨⟨p2, by rw [e2]; exact g2⟩, rows, e2, ?_, e3, hr, hr2⟩
  show T__law_hop_cut_7 ls s e (T__law_short ((n : Int), ws) s e (m : Nat)) = _
  rw [e2]
end K02

namespace K02
open PySem PySem.Spec
open PyProof.Rows hiding St
open L2 EE TM
abbrev Rep := List (List Int × Option Int)
theorem shared_nil {a b : List Int} : decide (T_shared a b = ([] : List Int)) = true ↔ ∀ x ∈ a, x ∉ b := by
  unfold T_shared
  rw [nil_fm]
  exact forall_congr' fun x => imp_congr_right fun _ => memB_false
theorem less_eq (a b : List Int) : T_less a b = T__law_less a b := rfl
theorem explains_iff {n : Int × Wy} {s e v : Int} {rep : Rep} {lot : List Int} : T_explains n s e rep v lot = true ↔ ∀ p ∈ rep, (∀ x ∈ p.1, x ∈ lot → x = s ∨ x = e) → p.2 = some v := by
  unfold T_explains T_explains_1
  rw [List.all_map, List.all_eq_true]
  have hm : ∀ p : List Int × Option Int, (∀ x ∈ p.1, x ∉ T_less lot [s, e]) ↔ (∀ x ∈ p.1, x ∈ lot → x = s ∨ x = e) := fun p => by
    refine forall_congr' fun x => imp_congr_right fun _ => ?_
    rw [less_eq, mem_less, mem_se]
    constructor
    · intro h hx
      exact Classical.byContradiction fun z => h ⟨hx, fun q => z (.inl q), fun q => z (.inr q)⟩
    · rintro h ⟨hx, h1, h2⟩
      rcases h hx with q | q
      · exact h1 q
      · exact h2 q
  constructor
  · intro h p hp hx
    exact of_decide_eq_true (h p (List.mem_filter.mpr ⟨hp, shared_nil.mpr ((hm p).mpr hx)⟩))
  · intro h p hp
    obtain ⟨h1, h2⟩ := List.mem_filter.mp hp
    exact decide_eq_true (h p h1 ((hm p).mp (shared_nil.mp h2)))
theorem fit_eq (n : Int × Wy) (ls : Lt) (s e : Int) (rep : Rep) : ∀ (xs acc : List Int), forF (fun (value1 : Int) (s1 : List Int) => T_fit_values_1 n ls s e rep value1 s1) xs acc = acc ++ xs.filter fun v => ls.any fun l => T_explains n s e rep v l
  | [], acc => by simp [forF]
  | v :: xs, acc => by
    rw [forF, fit_eq]
    unfold T_fit_values_1
    rw [List.any_map]
    show (if (ls.any fun l => T_explains n s e rep v l) = true then acc ++ [v] else acc) ++ _ = _
    by_cases h : (ls.any fun l => T_explains n s e rep v l) = true
    · rw [if_pos h, List.filter_cons_of_pos (p := fun v => ls.any fun l => T_explains n s e rep v l) h, List.append_assoc]; rfl
    · rw [if_neg h, List.filter_cons_of_neg (p := fun v => ls.any fun l => T_explains n s e rep v l) h]
theorem one_only {xs : List Int} (nd : xs.Nodup) {f : Int → Bool} {v : Int} (hv : v ∈ xs) (h : ∀ x ∈ xs, f x = true ↔ x = v) : xs.filter f = [v] := by
  induction xs with
  | nil => cases hv
  | cons x xs ih =>
    rw [List.nodup_cons] at nd
    by_cases hx : x = v
    · subst hx
      rw [List.filter_cons_of_pos ((h x List.mem_cons_self).mpr rfl)]
      congr 1
      rw [List.filter_eq_nil_iff]
      intro y hy hf
      rw [(h y (List.mem_cons_of_mem _ hy)).mp hf] at hy
      exact nd.1 hy
    · rw [List.filter_cons_of_neg (fun z => hx ((h x List.mem_cons_self).mp z))]
      rcases List.mem_cons.mp hv with hv | hv
      · exact absurd hv.symm hx
      · exact ih nd.2 hv fun y hy => h y (List.mem_cons_of_mem _ hy)
/-- where no two lots meet the short rows, they tell the value -/
theorem answer_ok {n : Nat} {ws : Wy} {ls : Lt} (hl : LiarsOk n ls) (hn : n ≤ 6) {s e : Int} {m : Nat} {rows : Lt} (hN : (T__law_hop_cut_7 ls s e rows).isNone = true) {lot l0 : List Int} (h0 : l0 ∈ ls) (hlot : ∀ x ∈ lot, x ∈ l0 ∧ x ≠ s ∧ x ≠ e)
    {v : Nat} (hv : v < 1000) {value : Int} (hval : 0 ≤ value ∧ value < v) {rep : Rep} (h1 : ∀ r ∈ rows, r.length ≤ m + 1 ∧ ∃ p ∈ rep, p.1 = r) (h2 : ∀ p ∈ rep, p.1.length ≤ m + 1 → (∀ x ∈ p.1, x ∉ lot) → p.2 = some value) (h3 : rep.length ≤ 100000) (h4 : ∀ p ∈ rep, p.1.length ≤ 1000) :
    S_hop_answer ((n : Int), ws) ls s e (v : Int) (m : Int) rep ∧ T_hop_answer ((n : Int), ws) ls s e (v : Int) (m : Int) rep = some value := by
  have lf := hl.few
  have ll := hl.len
  have hm : ((rep.filter fun (row1 : (List Int) × (Option Int)) => (decide ((row1.1.length : Int) ≤ ((m : Int) + (1 : Int))))).map fun (row1 : (List Int) × (Option Int)) => row1) = rep.filter fun (row1 : (List Int) × (Option Int)) => (decide ((row1.1.length : Int) ≤ ((m : Int) + (1 : Int)))) := List.map_id' _
  have hr2 : (rep.filter fun (row1 : (List Int) × (Option Int)) => (decide ((row1.1.length : Int) ≤ ((m : Int) + (1 : Int))))).length ≤ 100000 := Nat.le_trans (List.length_filter_le _ _) h3
  have mf : ∀ p, p ∈ (rep.filter fun (row1 : (List Int) × (Option Int)) => (decide ((row1.1.length : Int) ≤ ((m : Int) + (1 : Int))))) ↔ p ∈ rep ∧ p.1.length ≤ m + 1 := fun p => by
    rw [List.mem_filter, decide_eq_true_iff]
    refine and_congr_right fun _ => ?_
    omega
  have fit : T_fit_values ((n : Int), ws) ls s e (v : Int) (rep.filter fun (row1 : (List Int) × (Option Int)) => (decide ((row1.1.length : Int) ≤ ((m : Int) + (1 : Int))))) = [value] := by
    show forF (fun (value1 : Int) (s1 : List Int) => T_fit_values_1 ((n : Int), ws) ls s e _ value1 s1) (rg (v : Int)) [] = _
    rw [fit_eq, List.nil_append]
    refine one_only (rg_nd v) (mem_rg.mpr hval) fun x hx => ?_
    rw [List.any_eq_true]
    constructor
    · rintro ⟨l, hl1, hex⟩
      rw [explains_iff] at hex
      refine Classical.byContradiction fun hne => ?_
      have : (T__law_hop_cut_7 ls s e rows).isSome = true := cut_iff.mpr ⟨l, hl1, l0, h0, fun r hr => ?_⟩
      · cases hc : T__law_hop_cut_7 ls s e rows with
        | none => rw [hc] at this; cases this
        | some q => rw [hc] at hN; cases hN
      · obtain ⟨hlen, p, hp, rfl⟩ := h1 r hr
        refine Classical.byContradiction fun hno => hne ?_
        have g1 : p.2 = some x := hex p ((mf p).mpr ⟨hp, hlen⟩) fun y hy hyl => Classical.byContradiction fun hse => hno ⟨y, hy, .inl hyl, fun q => hse (.inl q), fun q => hse (.inr q)⟩
        have g2 : p.2 = some value := h2 p hp hlen fun y hy hyl => hno ⟨y, hy, .inr (hlot y hyl).1, (hlot y hyl).2⟩
        rw [g1] at g2
        injection g2
    · rintro rfl
      refine ⟨l0, h0, explains_iff.mpr fun p hp hx => ?_⟩
      obtain ⟨hp, hlen⟩ := (mf p).mp hp
      refine h2 p hp hlen fun y hy hyl => ?_
      have := hlot y hyl
      rcases hx y hy this.1 with q | q
      · exact this.2.1 q
      · exact this.2.2 q
  constructor
  · refine ⟨sl_of (by omega), ?_⟩
    rw [hm]
    have L := for_pre (S := fun (value1 : Int) (s1 : List Int) => S_fit_values_1 ((n : Int), ws) ls s e (rep.filter fun (row1 : (List Int) × (Option Int)) => (decide ((row1.1.length : Int) ≤ ((m : Int) + (1 : Int))))) value1 s1)
      (b := fun (value1 : Int) (s1 : List Int) => T_fit_values_1 ((n : Int), ws) ls s e (rep.filter fun (row1 : (List Int) × (Option Int)) => (decide ((row1.1.length : Int) ≤ ((m : Int) + (1 : Int))))) value1 s1)
      (fun pre st => st.length ≤ pre.length) (rg (v : Int)) [] [] (fun ys x hy _ st h => by
        rw [rg_len] at hy
        have hy : ys.length < v := by simpa using hy
        refine ⟨⟨sl_of (by omega), fun l hl => ⟨sl_of (by have := ll l hl; omega), sl_of (by omega), fun p hp => sl_of ?_⟩, fun _ => slt_of (by omega)⟩, ?_⟩
        · have := h4 p ((mf p).mp hp).1
          omega
        · show (T_fit_values_1 ((n : Int), ws) ls s e _ x st).length ≤ _
          unfold T_fit_values_1
          rw [List.length_append]
          split
          · simp; omega
          · simp; omega) (Nat.le_refl _)
    refine ⟨⟨sm_of (by omega) (by omega), L.1⟩, ?_⟩
    rw [fit]
    exact fun _ => (by decide : 0 < 1)
  · show T_hop_answer_1 (T_fit_values ((n : Int), ws) ls s e (v : Int) _) = _
    rw [hm, fit]
    rfl
/-- the drawn reports: who does not meet the lying lot tells the value -/
theorem reports_ex {box : List Int} {n : Nat} {ws : Wy} {s e : Int} (hb : BoxOk box) {R : Lt} (hS : S__law_trails ((n : Int), ws) s e) (hR : T__law_trails ((n : Int), ws) s e = R) (hl : R.length ≤ 50000) (hr : ∀ r ∈ R, r.length ≤ 1000) (value : Int) (lot : List Int) {v : Int} (hv : 2 ≤ v ∧ v < 1000) :
    S__law_reports box ((n : Int), ws) s e value lot v ∧ ∃ told rep b', T__law_reports box ((n : Int), ws) s e value lot v = ((told, rep), b') ∧ BoxOk b' ∧ rep.map Prod.fst = R ∧ ∀ p ∈ rep, (∀ x ∈ p.1, x ∉ lot) → p.2 = some value := by
  obtain ⟨s1, way, b1, e1, k1, _⟩ := take_ex (m := 4) hb (by omega) (by omega)
  have L := for_pre (S := fun (trail1 : List Int) (s1 : (List Int) × (List ((List Int) × (Option Int))) × (List ((List Int) × (Option Int)))) => S__law_reports_4 value lot v way trail1 s1)
    (b := fun (trail1 : List Int) (s1 : (List Int) × (List ((List Int) × (Option Int))) × (List ((List Int) × (Option Int)))) => T__law_reports_4 value lot v way trail1 s1)
    (fun pre st => BoxOk st.1 ∧ st.2.1.length ≤ pre.length ∧ st.2.2.map Prod.fst = pre ∧ ∀ p ∈ st.2.2, (∀ x ∈ p.1, x ∉ lot) → p.2 = some value) R [] (b1, [], []) (fun ys t hy ht st h => by
      obtain ⟨h1, h2, h3, h4⟩ := h
      have hlen : st.2.2.length = ys.length := by rw [← h3, List.length_map]
      have hy : ys.length < R.length := by simpa using hy
      have htl := hr t ht
      have free : decide (((t.filter fun (house1 : Int) => (memB house1 lot)).map fun (house1 : Int) => (1 : Int)) = ([] : List Int)) = true ↔ ∀ x ∈ t, x ∉ lot := by
        rw [nil_fm]
        exact forall_congr' fun x => imp_congr_right fun _ => memB_false
      by_cases hf : decide (((t.filter fun (house1 : Int) => (memB house1 lot)).map fun (house1 : Int) => (1 : Int)) = ([] : List Int)) = true
      · refine ⟨⟨sl_of (by omega), fun _ => slt_of (by omega), fun z => by rw [hf] at z; cases z⟩, ?_⟩
        have eT : T__law_reports_4 value lot v way t st = (st.1, st.2.1, st.2.2 ++ [(t, some value)]) := by
          unfold T__law_reports_4
          rw [if_pos hf]; rfl
        rw [eT]
        refine ⟨h1, by rw [List.length_append, List.length_singleton]; show st.2.1.length ≤ _; omega, by show (st.2.2 ++ _).map _ = _; rw [List.map_append, h3]; rfl, fun p hp hx => ?_⟩
        rcases List.mem_append.mp hp with hp | hp
        · exact h4 p hp hx
        · rw [List.mem_singleton.mp hp]
      · -- who meets the lying lot tells anything
        have main : ∀ (b2 : List Int) (said : Option Int), BoxOk b2 → S__law_reports_3 st b2 said ∧ BoxOk (T__law_reports_3 t st b2 said).1 ∧ (T__law_reports_3 t st b2 said).2.1.length ≤ (ys ++ [t]).length ∧ (T__law_reports_3 t st b2 said).2.2.map Prod.fst = ys ++ [t] ∧ ∀ p ∈ (T__law_reports_3 t st b2 said).2.2, (∀ x ∈ p.1, x ∉ lot) → p.2 = some value := by
          intro b2 said hb2
          have tk := take_ok hb2 (m := 2) (by omega) (by omega)
          refine ⟨⟨fun _ => tk.1, fun _ => slt_of (by omega), slt_of (by omega)⟩, ?_, ?_, ?_, fun p hp hx => ?_⟩
          · show BoxOk (if said.isSome = true then b2 else (T__law_take b2 (2 : Int)).2)
            split
            · exact hb2
            · exact tk.2.1
          · show (if (said.isSome || (decide ((T__law_take b2 (2 : Int)).1 = (0 : Int)))) = true then (st.2.1 ++ [(t, said)]) else st.2.1).length ≤ _
            rw [List.length_append, List.length_singleton]
            split
            · rw [List.length_append, List.length_singleton]; omega
            · omega
          · show (st.2.2 ++ [(t, said)]).map Prod.fst = _
            rw [List.map_append, h3]; rfl
          · have hp : p ∈ st.2.2 ++ [(t, said)] := hp
            rcases List.mem_append.mp hp with hp | hp
            · exact h4 p hp hx
            · rw [List.mem_singleton.mp hp] at hx
              exact absurd (free.mpr hx) hf
        have hsc : S__law_reports_4 value lot v way t st ∧ ∃ b2 said, BoxOk b2 ∧ T__law_reports_4 value lot v way t st = T__law_reports_3 t st b2 said := by
          by_cases hw : decide ((0 : Int) < way) = true
          · obtain ⟨g1, x, b2, ge, gk, _⟩ := take_ex (m := v) h1 (by omega) (by omega)
            obtain ⟨p1, y, b3, pe, pk, _⟩ := pick_ex (xs := ([(none : Option Int), (some x), (some ((value + (1 : Int)) % v)), (some value)] : List (Option Int))) none gk (by simp) (by simp)
            refine ⟨⟨sl_of (by omega), fun z => absurd z hf, fun _ => ⟨fun _ => ⟨g1, by omega, by rw [ge]; exact p1⟩, fun z => (by rw [hw] at z; cases z), ?_⟩⟩, b3, y, pk, ?_⟩
            · rw [if_pos hw, if_pos hw, ge]
              dsimp only
              rw [pe]
              exact (main b3 y pk).1
            · unfold T__law_reports_4
              rw [if_neg hf, if_pos hw, if_pos hw, ge]
              dsimp only
              rw [pe]
          · refine ⟨⟨sl_of (by omega), fun z => absurd z hf, fun _ => ⟨fun z => absurd z hw, fun _ => by omega, ?_⟩⟩, st.1, some ((value + 1) % v), h1, ?_⟩
            · rw [if_neg hw, if_neg hw]
              exact (main st.1 _ h1).1
            · unfold T__law_reports_4
              rw [if_neg hf, if_neg hw, if_neg hw]
        obtain ⟨c1, b2, said, c2, c3⟩ := hsc
        refine ⟨c1, ?_⟩
        show (fun st : (List Int) × (List ((List Int) × (Option Int))) × (List ((List Int) × (Option Int))) => BoxOk st.1 ∧ st.2.1.length ≤ (ys ++ [t]).length ∧ st.2.2.map Prod.fst = ys ++ [t] ∧ ∀ p ∈ st.2.2, (∀ x ∈ p.1, x ∉ lot) → p.2 = some value) (T__law_reports_4 value lot v way t st)
        rw [c3]
        exact (main b2 said c2).2) ⟨k1, Nat.le_refl _, rfl, fun p hp => nomatch hp⟩
  obtain ⟨L1, L2, _, L3, L4⟩ := L
  refine ⟨⟨s1, hS, ?_⟩, _, _, _, rfl, ?_, ?_, ?_⟩
  · rw [e1, hR]; exact L1
  · show BoxOk (forF (fun (trail1 : List Int) (s1 : (List Int) × (List ((List Int) × (Option Int))) × (List ((List Int) × (Option Int)))) => T__law_reports_4 value lot v (T__law_take box 4).1 trail1 s1) (T__law_trails ((n : Int), ws) s e) ((T__law_take box 4).2, [], [])).1
    rw [e1, hR]; exact L2
  · show ((forF (fun (trail1 : List Int) (s1 : (List Int) × (List ((List Int) × (Option Int))) × (List ((List Int) × (Option Int)))) => T__law_reports_4 value lot v (T__law_take box 4).1 trail1 s1) (T__law_trails ((n : Int), ws) s e) ((T__law_take box 4).2, [], [])).2.2).map Prod.fst = R
    rw [e1, hR]; simpa using L3
  · show ∀ p ∈ (forF (fun (trail1 : List Int) (s1 : (List Int) × (List ((List Int) × (Option Int))) × (List ((List Int) × (Option Int)))) => T__law_reports_4 value lot v (T__law_take box 4).1 trail1 s1) (T__law_trails ((n : Int), ws) s e) ((T__law_take box 4).2, [], [])).2.2, _
    rw [e1, hR]; exact L4
theorem lk_oi (o : Option Int) : Lk (cO cI (fun _ => rfl)) o 60 2 := lk_O fun x _ => lk_I x 60
/-- one turn: a lying lot, a value, the reports, both answers -/
theorem turn_ok {n : Nat} {ws : Wy} (h : NetOk n ws) (hn : n ≤ 6) {ls : Lt} (hl : LiarsOk n ls) {s e : Int} (hs : 0 ≤ s ∧ s < n) {m : Nat} (hm : m ≤ n) (hN : (T__law_hop_cut ((n : Int), ws) ls s e (m : Int)).isNone = true) (sm : List Int) {box : List Int} (hb : BoxOk box) :
    S_law_9 ls s e (((n : Int), ws), sm) (m : Int) box ∧ ∃ b', BoxOk b' ∧ T_law_9 ls s e (((n : Int), ws), sm) (m : Int) box = .nx b' := by
  obtain ⟨t1, _, t2, t3, t4, rows, e2, e3, hr, hr2⟩ := lrows_ok h hn hs m hm (e := e)
  have hN : (T__law_hop_cut_7 ls s e rows).isNone = true := by rw [← e2]; exact hN
  have lf := hl.few
  obtain ⟨p1, a, b1, ea, k1, ma⟩ := pick_ex (xs := ls) ([] : List Int) hb hl.ne (by omega)
  obtain ⟨p2, c, b2, ec, k2, mc⟩ := pick_ex (xs := ls) ([] : List Int) k1 hl.ne (by omega)
  have hcl := hl.len c mc
  obtain ⟨p3, d, b3, ed, k3, sd⟩ := drawn_ex (hs := c) (part := 2) k2 (by omega) (by omega) (by omega)
  obtain ⟨p4, lot, b4, el, k4, ml⟩ := pick_ex (xs := [a, d]) ([] : List Int) k3 (by simp) (by simp)
  obtain ⟨p5, x, b5, ex, k5, x0, x3⟩ := take_ex (m := 3) k4 (by omega) (by omega)
  obtain ⟨v, hv⟩ : ∃ v : Nat, 2 + x = (v : Int) := ⟨(2 + x).toNat, by omega⟩
  obtain ⟨p6, value, b6, ev, k6, hval⟩ := take_ex (m := (v : Int)) k5 (by omega) (by omega)
  obtain ⟨l0, h0, hlot, hlen⟩ : ∃ l0 ∈ ls, (∀ y ∈ lot, y ∈ l0) ∧ lot.length ≤ n := by
    simp only [List.mem_cons, List.not_mem_nil, or_false] at ml
    rcases ml with rfl | rfl
    · exact ⟨lot, ma, fun y hy => hy, hl.len _ ma⟩
    · exact ⟨c, mc, fun y hy => sd.subset hy, Nat.le_trans sd.length_le hcl⟩
  have hlot2 : ∀ y ∈ T__law_less lot [s, e], y ∈ l0 ∧ y ≠ s ∧ y ≠ e := fun y hy => by
    obtain ⟨q1, q2⟩ := mem_less.mp hy
    exact ⟨hlot y q1, mem_se.mp q2⟩
  obtain ⟨p7, told, rep, b7, er, k7, r1, r2⟩ := reports_ex (n := n) (ws := ws) (s := s) (e := e) k6 t1 rfl (by rw [t2, srt_len]; omega) (fun r hr => by
    rw [t2] at hr
    have := t4 r (mem_srt.mp hr)
    omega) value (T__law_less lot [s, e]) (v := (v : Int)) (by omega)
  have repl : rep.length ≤ 100000 := by
    have := congrArg List.length r1
    rw [List.length_map, t2, srt_len] at this
    omega
  have rep4 : ∀ p ∈ rep, p.1.length ≤ 1000 := fun p hp => by
    have : p.1 ∈ T__law_trails ((n : Int), ws) s e := by rw [← r1]; exact List.mem_map_of_mem hp
    rw [t2] at this
    have := t4 _ (mem_srt.mp this)
    omega
  have rows1 : ∀ r ∈ rows, r.length ≤ m + 1 ∧ r ∈ T__law_trails ((n : Int), ws) s e := fun r hr => by
    rw [← e2] at hr
    have hr : r ∈ ((T__law_trails ((n : Int), ws) s e).filter fun (row1 : List Int) => (decide ((row1.length : Int) ≤ ((m : Int) + (1 : Int))))).map fun (row1 : List Int) => row1 := hr
    rw [List.map_id'] at hr
    obtain ⟨q1, q2⟩ := List.mem_filter.mp hr
    have := of_decide_eq_true q2
    exact ⟨by omega, q1⟩
  have A := answer_ok (ws := ws) hl hn (s := s) (e := e) (m := m) hN h0 hlot2 (v := v) (by omega) hval (rep := rep) (fun r hr => by
    obtain ⟨q1, q2⟩ := rows1 r hr
    rw [← r1] at q2
    obtain ⟨p, hp, hq⟩ := List.mem_map.mp q2
    exact ⟨q1, p, hp, hq⟩) (fun p hp _ hx => r2 p hp hx) repl rep4
  have B := answer_ok (ws := ws) hl hn (s := s) (e := e) (m := m) hN h0 hlot2 (v := v) (by omega) hval (rep := rep.map fun (x1 : (List Int) × (Option Int)) => (x1.1, (if (decide ((x1.1.length : Int) ≤ ((m : Int) + (1 : Int)))) = true then x1.2 else (some ((value + (1 : Int)) % (v : Int)))))) (fun r hr => by
    obtain ⟨q1, q2⟩ := rows1 r hr
    rw [← r1] at q2
    obtain ⟨p, hp, hq⟩ := List.mem_map.mp q2
    exact ⟨q1, _, List.mem_map_of_mem hp, hq⟩) (fun p hp hlen hx => by
    obtain ⟨q, hq, rfl⟩ := List.mem_map.mp hp
    have hlen : q.1.length ≤ m + 1 := hlen
    show (if (decide ((q.1.length : Int) ≤ ((m : Int) + (1 : Int)))) = true then q.2 else _) = _
    rw [if_pos (decide_eq_true (by omega))]
    exact r2 q hq hx) (by rw [List.length_map]; exact repl) (fun p hp => by
    obtain ⟨q, hq, rfl⟩ := List.mem_map.mp hp
    exact rep4 q hq)
  have hS : S_law_8 ls s e (((n : Int), ws), sm) (m : Int) b4 (T__law_less lot [s, e]) := by
    refine ⟨p5, ?_⟩
    rw [ex]
    dsimp only
    rw [hv]
    refine ⟨p6, ?_⟩
    rw [ev]
    refine ⟨p7, ?_⟩
    rw [er]
    refine ⟨sl_of (by dsimp only; omega), fun p hp _ => by omega, forS_all _ fun rows hr => ?_⟩
    simp only [List.mem_cons, List.not_mem_nil, or_false] at hr
    rcases hr with rfl | rfl
    · exact ⟨A.1, by rw [A.2]; exact like_lk (lk_oi _) (by omega)⟩
    · exact ⟨B.1, by rw [B.2]; exact like_lk (lk_oi _) (by omega)⟩
  have hT : T_law_8 s e (((n : Int), ws), sm) (m : Int) b4 (T__law_less lot [s, e]) = .nx b7 := by
    unfold T_law_8
    rw [ex]
    dsimp only
    rw [hv]
    unfold T_law_7
    rw [ev]
    unfold T_law_6
    dsimp only
    rw [er]
    rfl
  constructor
  · refine ⟨p1, ?_, ?_, ?_, ?_, ?_⟩ <;> rw [ea] <;> dsimp only
    · exact p2
    · rw [ec]; exact p3
    · rw [ec]
      dsimp only
      rw [ed]; exact p4
    · rw [ec]
      dsimp only
      rw [ed]
      dsimp only
      rw [el]
      exact sl_of (by dsimp only; omega)
    · rw [ec]
      dsimp only
      rw [ed]
      dsimp only
      rw [el]
      exact hS
  · refine ⟨b7, k7, ?_⟩
    unfold T_law_9
    rw [ea]
    dsimp only
    rw [ec]
    dsimp only
    rw [ed]
    dsimp only
    rw [el]
    exact hT
/-- a way told: no lots meet all trails of one way -/
theorem way_none {n : Nat} {ws : Wy} (h : NetOk n ws) (hn : n ≤ 6) {ls : Lt} {s e : Int} (hs : 0 ≤ s ∧ s < n) (hne : s ≠ e) (hw : (s, e) ∈ ws) : (T__law_hop_cut ((n : Int), ws) ls s e 1).isNone = true := by
  obtain ⟨_, _, _, _, _, rows, e2, e3, _⟩ := lrows_ok h hn hs 1 (by omega) (e := e)
  have hm : [s, e] ∈ rows := by
    rw [e3, mem_srt]
    have hc : [s, e] ∈ nxt ws [s] := by
      refine List.mem_map.mpr ⟨(s, e), List.mem_filter.mpr ⟨hw, ?_⟩, rfl⟩
      show ((s == s) && !([s].contains e)) = true
      simp
      exact fun z => hne z.symm
    show [s, e] ∈ tr ws e 1 [s]
    rw [tr, if_neg (show ¬ lst [s] = e from hne)]
    refine List.mem_flatMap.mpr ⟨[s, e], hc, ?_⟩
    rw [tr, if_pos (show lst [s, e] = e from rfl)]
    exact List.mem_singleton.mpr rfl
  show (T__law_hop_cut_7 ls s e (T__law_short ((n : Int), ws) s e ((1 : Nat) : Int))).isNone = true
  rw [e2]
  cases hc : T__law_hop_cut_7 ls s e rows with
  | none => rfl
  | some q =>
    obtain ⟨a, _, b, _, hM⟩ := cut_iff.mp (show (T__law_hop_cut_7 ls s e rows).isSome = true by rw [hc]; rfl)
    obtain ⟨x, hx, _, h1, h2⟩ := hM _ hm
    simp only [List.mem_cons, List.not_mem_nil, or_false] at hx
    omega
theorem law17 (script : List Int) (k : Nat) : S_law_17 script (k : Int) ∧ T_law_17 script (k : Int) = .nx () := by
  obtain ⟨sb, hb⟩ := box_ok script k
  obtain ⟨s1, x, b1, e1, k1, x0, x3⟩ := take_ex (m := 3) hb (by omega) (by omega)
  obtain ⟨s2, y, b2, e2, k2, _⟩ := take_ex (m := 2) k1 (by omega) (by omega)
  obtain ⟨n, hn⟩ : ∃ n : Nat, 3 + x = (n : Int) := ⟨(3 + x).toNat, by omega⟩
  have hn5 : n ≤ 5 := by omega
  obtain ⟨s3, ws, b3, e3, k3, hw⟩ := net_ex n (by omega) (decide (y = 0)) k2
  obtain ⟨s4, ls, b4, e4, k4, hl⟩ := liars_ex n (by omega) k3
  obtain ⟨s5, s, e, b5, e5, k5, hs, he, hne⟩ := ends_ex n (by omega) (by omega) ws k4
  have hrg : ∀ m ∈ rg2 1 (n : Int), ∃ q : Nat, m = (q : Int) ∧ q ≤ n := fun m hm => by
    have := mem_rgF.mp hm
    exact ⟨m.toNat, by omega, by omega⟩
  have turns : ∀ (ws' : Wy) (sm : List Int) (m : Nat), NetOk n ws' → m ≤ n → (T__law_hop_cut ((n : Int), ws') ls s e (m : Int)).isNone = true → ∀ b, BoxOk b → S_law_11 ls s e (((n : Int), ws'), sm) b (m : Int) ∧ T_law_11 ls s e (((n : Int), ws'), sm) b (m : Int) = .nx () := by
    intro ws' sm m h1 h2 h3 b h4
    constructor
    · refine forS_of BoxOk _ _ (fun t _ b hb => ?_) h4
      obtain ⟨q1, b', q2, q3⟩ := turn_ok h1 (by omega) hl hs h2 h3 sm hb
      exact ⟨q1, fun s' hs' => by
        rw [q3] at hs'
        injection hs' with hs'
        rw [← hs']; exact q2⟩
    · obtain ⟨b', q1, _⟩ := forB_nx (b := fun (turn1 : Int) (s2 : List Int) => T_law_9 ls s e (((n : Int), ws'), sm) (m : Int) s2) BoxOk (rg (4 : Int)) b (fun t _ b hb => by
        obtain ⟨_, b', q2, q3⟩ := turn_ok h1 (by omega) hl hs h2 h3 sm hb
        exact ⟨b', q3, q2⟩) h4
      unfold T_law_11
      rw [q1]; rfl
  have body : S_law_14 ((n : Int), ws) b5 ls s e ∧ T_law_14 ((n : Int), ws) b5 ls s e = .nx () := by
    unfold S_law_14 T_law_14
    rw [List.map_id']
    by_cases hc : decide (((rg2 (1 : Int) (n : Int)).filter fun (most1 : Int) => (T__law_hop_cut ((n : Int), ws) ls s e most1).isNone) = ([] : List Int)) = true
    · have hsq := hw.sq
      have hsq2 : n * n ≤ 5 * 5 := Nat.mul_le_mul hn5 hn5
      have hw' : NetOk n (sset (cP (rC cI (r1 cI))) (ws ++ ([(s, e)] : Wy))) := ⟨sset_nodup _ _, fun w hw2 => by
        rcases List.mem_append.mp (mem_sset.mp hw2) with hw2 | hw2
        · exact hw.rng w hw2
        · rw [List.mem_singleton.mp hw2]; exact ⟨hs, he⟩, by
        have := sset_len (cP (rC cI (r1 cI))) (ws ++ ([(s, e)] : Wy))
        rw [List.length_append, List.length_singleton] at this
        omega⟩
      have hno := way_none hw' (by omega) (ls := ls) hs hne (mem_sset.mpr (List.mem_append_right _ (List.mem_singleton.mpr rfl)))
      obtain ⟨p1, z, b6, ez, k6, hz⟩ := pick_ex (xs := ([(1 : Int)] : List Int)) 0 k5 (by simp) (by simp)
      rw [List.mem_singleton.mp hz] at ez
      obtain ⟨t1, t2⟩ := turns _ [1] 1 hw' (by omega) hno b6 k6
      constructor
      · refine ⟨sm_of (by omega) (by omega), sl_of (by unfold rg2; rw [rgF_len]; omega), fun m hm => ?_, fun _ => ⟨sl_of ?_, ?_⟩, ?_⟩
        · obtain ⟨q, rfl, hq⟩ := hrg m hm
          exact (lhop_ok hw (by omega) hl hs q hq).1
        · show ws.length + 1 ≤ _
          omega
        · rw [List.length_append, List.length_singleton]
          show ws.length + 1 < 64
          omega
        · rw [if_pos hc]
          refine ⟨p1, ?_⟩
          show S_law_11 ls s e _ (T__law_pick b5 [1] 0).2 (T__law_pick b5 [1] 0).1
          rw [ez]
          exact t1
      · unfold T_law_13
        rw [if_pos hc]
        show T_law_11 ls s e _ (T__law_pick b5 [1] 0).2 (T__law_pick b5 [1] 0).1 = _
        rw [ez]
        exact t2
    · have hne' : ((rg2 (1 : Int) (n : Int)).filter fun (most1 : Int) => (T__law_hop_cut ((n : Int), ws) ls s e most1).isNone) ≠ [] := fun z => hc (decide_eq_true z)
      have hlen : ((rg2 (1 : Int) (n : Int)).filter fun (most1 : Int) => (T__law_hop_cut ((n : Int), ws) ls s e most1).isNone).length < 1073741824 := by
        refine Nat.lt_of_le_of_lt (List.length_filter_le _ _) ?_
        unfold rg2
        rw [rgF_len]
        omega
      obtain ⟨p1, z, b6, ez, k6, hz⟩ := pick_ex 0 k5 hne' hlen
      obtain ⟨hz1, hz2⟩ := List.mem_filter.mp hz
      obtain ⟨q, rfl, hq⟩ := hrg z hz1
      obtain ⟨t1, t2⟩ := turns ws ((rg2 (1 : Int) (n : Int)).filter fun (most1 : Int) => (T__law_hop_cut ((n : Int), ws) ls s e most1).isNone) q hw hq hz2 b6 k6
      constructor
      · refine ⟨sm_of (by omega) (by omega), sl_of (by unfold rg2; rw [rgF_len]; omega), fun m hm => ?_, fun z => absurd z hc, ?_⟩
        · obtain ⟨q, rfl, hq⟩ := hrg m hm
          exact (lhop_ok hw (by omega) hl hs q hq).1
        · rw [if_neg hc]
          refine ⟨p1, ?_⟩
          dsimp only
          rw [ez]
          exact t1
      · unfold T_law_13
        rw [if_neg hc]
        unfold T_law_12
        dsimp only
        rw [ez]
        exact t2
  have all : S_law_16 (T__law_box script (k : Int)) ∧ T_law_16 (T__law_box script (k : Int)) = .nx () := by
    unfold S_law_16 T_law_16
    rw [e1, e2]
    dsimp only
    rw [hn, e3]
    unfold S_law_15 T_law_15
    dsimp only
    rw [e4]
    dsimp only
    rw [e5]
    exact ⟨⟨s1, s2, s3, s4, s5, body.1⟩, body.2⟩
  exact ⟨⟨sb, all.1⟩, all.2⟩
theorem math (ns : List Int) (hl : ns.length ≤ 63) : ∃ os : List D, os.length = 1 ∧ F_law [scr ns] = .ok (.bl true) os := by
  have rng : Sm (max2 (3 : Int) (min2 (ns.length : Int) (8 : Int))) := by
    unfold max2 min2
    split <;> split <;> exact sm_of (by omega) (by omega)
  obtain ⟨N, hN⟩ : ∃ N : Nat, max2 (3 : Int) (min2 (ns.length : Int) (8 : Int)) = (N : Int) := ⟨(max2 (3 : Int) (min2 (ns.length : Int) (8 : Int))).toNat, by
    unfold max2 min2
    split <;> split <;> omega⟩
  have S : S_law ns := by
    refine ⟨rng, ?_⟩
    rw [hN]
    refine forS_all _ fun k hk => ?_
    have := mem_rg.mp hk
    obtain ⟨q, rfl⟩ : ∃ q : Nat, k = (q : Int) := ⟨k.toNat, by omega⟩
    exact (law17 ns q).1
  have T : T_law ns = true := by
    unfold T_law
    rw [hN, forB_same (b := fun (k1 : Int) (s1 : Unit) => T_law_17 ns k1) (s := ()) (rg (N : Int)) (fun k hk => by
      have := mem_rg.mp hk
      obtain ⟨q, rfl⟩ : ∃ q : Nat, k = (q : Int) := ⟨k.toNat, by omega⟩
      exact (law17 ns q).2)]
    rfl
  refine ⟨[.non], rfl, ?_⟩
  have := L_law ns S
  rw [T] at this
  exact this
end K02

namespace K02
open PySem PySem.Spec
open PyProof.Rows hiding St
open L2 EE

theorem all_mk {l : PySem.W.OpenLaw} {w : World} {K : PySem.W.Frag} {h : Heap} {mg : Str → Option Value} {fa f0 f1 f2 f3 f4 f5 f6 f7 f8 f9 f10 f11 f12 f13 f14 f15 f16 f17 f18 f19 f20 f21 : Addr} (X : K.In h) (G : h.Ns mainGlobals mg) (hfa : mg "law" = some (.ref fa))
  {od0 an0 od1 an1 od2 an2 od3 an3 od4 an4 od5 an5 od6 an6 od7 an7 od8 an8 od9 an9 od10 an10 od11 an11 od12 an12 od13 an13 od14 an14 od15 an15 od16 an16 od17 an17 od18 an18 od19 an19 od20 an20 od21 an21 : Option Addr} {sl0 sl1 sl2 sl3 sl4 sl5 sl6 sl7 sl8 sl9 sl10 sl11 sl12 sl13 sl14 sl15 sl16 sl17 sl18 sl19 sl20 sl21 : Array (Option Value)} {oc0 kV0 dc0 pm0 cd0 ct0 oc1 kV1 dc1 pm1 cd1 ct1 oc2 kV2 dc2 pm2 cd2 ct2 oc3 kV3 dc3 pm3 cd3 ct3 oc4 kV4 dc4 pm4 cd4 ct4 oc5 kV5 dc5 pm5 cd5 ct5 oc6 kV6 dc6 pm6 cd6 ct6 oc7 kV7 dc7 pm7 cd7 ct7 oc8 kV8 dc8 pm8 cd8 ct8 oc9 kV9 dc9 pm9 cd9 ct9 oc10 kV10 dc10 pm10 cd10 ct10 oc11 kV11 dc11 pm11 cd11 ct11 oc12 kV12 dc12 pm12 cd12 ct12 oc13 kV13 dc13 pm13 cd13 ct13 oc14 kV14 dc14 pm14 cd14 ct14 oc15 kV15 dc15 pm15 cd15 ct15 oc16 kV16 dc16 pm16 cd16 ct16 oc17 kV17 dc17 pm17 cd17 ct17 oc18 kV18 dc18 pm18 cd18 ct18 oc19 kV19 dc19 pm19 cd19 ct19 oc20 kV20 dc20 pm20 cd20 ct20 oc21 kV21 dc21 pm21 cd21 ct21 : Value}
  (a0 : PySem.W.nsIn K mainGlobals "less" = some (some (.ref f0))) (l0 : K.lookup f0 = some ⟨oc0, od0, .func (PySem.W.fnOf "less" "less" (defArgs s_less) (defBody s_less) (defScope s_less) .none kV0 dc0 pm0 an0 cd0 ct0), sl0⟩) (c0 : PySem.W.codeIn K cd0 "less" = true) (k0 : PySem.W.keepIn K (.ref f0) = true)
  (a1 : PySem.W.nsIn K mainGlobals "shared" = some (some (.ref f1))) (l1 : K.lookup f1 = some ⟨oc1, od1, .func (PySem.W.fnOf "shared" "shared" (defArgs s_shared) (defBody s_shared) (defScope s_shared) .none kV1 dc1 pm1 an1 cd1 ct1), sl1⟩) (c1 : PySem.W.codeIn K cd1 "shared" = true) (k1 : PySem.W.keepIn K (.ref f1) = true)
  (a2 : PySem.W.nsIn K mainGlobals "explains" = some (some (.ref f2))) (l2 : K.lookup f2 = some ⟨oc2, od2, .func (PySem.W.fnOf "explains" "explains" (defArgs s_explains) (defBody s_explains) (defScope s_explains) .none kV2 dc2 pm2 an2 cd2 ct2), sl2⟩) (c2 : PySem.W.codeIn K cd2 "explains" = true) (k2 : PySem.W.keepIn K (.ref f2) = true)
  (a3 : PySem.W.nsIn K mainGlobals "fit_values" = some (some (.ref f3))) (l3 : K.lookup f3 = some ⟨oc3, od3, .func (PySem.W.fnOf "fit_values" "fit_values" (defArgs s_fit_values) (defBody s_fit_values) (defScope s_fit_values) .none kV3 dc3 pm3 an3 cd3 ct3), sl3⟩) (c3 : PySem.W.codeIn K cd3 "fit_values" = true) (k3 : PySem.W.keepIn K (.ref f3) = true)
  (a4 : PySem.W.nsIn K mainGlobals "hop_answer" = some (some (.ref f4))) (l4 : K.lookup f4 = some ⟨oc4, od4, .func (PySem.W.fnOf "hop_answer" "hop_answer" (defArgs s_hop_answer) (defBody s_hop_answer) (defScope s_hop_answer) .none kV4 dc4 pm4 an4 cd4 ct4), sl4⟩) (c4 : PySem.W.codeIn K cd4 "hop_answer" = true) (k4 : PySem.W.keepIn K (.ref f4) = true)
  (a5 : PySem.W.nsIn K mainGlobals "_law_take" = some (some (.ref f5))) (l5 : K.lookup f5 = some ⟨oc5, od5, .func (PySem.W.fnOf "_law_take" "_law_take" (defArgs s__law_take) (defBody s__law_take) (defScope s__law_take) .none kV5 dc5 pm5 an5 cd5 ct5), sl5⟩) (c5 : PySem.W.codeIn K cd5 "_law_take" = true) (k5 : PySem.W.keepIn K (.ref f5) = true)
  (a6 : PySem.W.nsIn K mainGlobals "_law_pick" = some (some (.ref f6))) (l6 : K.lookup f6 = some ⟨oc6, od6, .func (PySem.W.fnOf "_law_pick" "_law_pick" (defArgs s__law_pick) (defBody s__law_pick) (defScope s__law_pick) .none kV6 dc6 pm6 an6 cd6 ct6), sl6⟩) (c6 : PySem.W.codeIn K cd6 "_law_pick" = true) (k6 : PySem.W.keepIn K (.ref f6) = true)
  (a7 : PySem.W.nsIn K mainGlobals "_law_like" = some (some (.ref f7))) (l7 : K.lookup f7 = some ⟨oc7, od7, .func (PySem.W.fnOf "_law_like" "_law_like" (defArgs s__law_like) (defBody s__law_like) (defScope s__law_like) .none kV7 dc7 pm7 an7 cd7 ct7), sl7⟩) (c7 : PySem.W.codeIn K cd7 "_law_like" = true) (k7 : PySem.W.keepIn K (.ref f7) = true)
  (a8 : PySem.W.nsIn K mainGlobals "_law_within" = some (some (.ref f8))) (l8 : K.lookup f8 = some ⟨oc8, od8, .func (PySem.W.fnOf "_law_within" "_law_within" (defArgs s__law_within) (defBody s__law_within) (defScope s__law_within) .none kV8 dc8 pm8 an8 cd8 ct8), sl8⟩) (c8 : PySem.W.codeIn K cd8 "_law_within" = true) (k8 : PySem.W.keepIn K (.ref f8) = true)
  (a9 : PySem.W.nsIn K mainGlobals "_law_greatest" = some (some (.ref f9))) (l9 : K.lookup f9 = some ⟨oc9, od9, .func (PySem.W.fnOf "_law_greatest" "_law_greatest" (defArgs s__law_greatest) (defBody s__law_greatest) (defScope s__law_greatest) .none kV9 dc9 pm9 an9 cd9 ct9), sl9⟩) (c9 : PySem.W.codeIn K cd9 "_law_greatest" = true) (k9 : PySem.W.keepIn K (.ref f9) = true)
  (a10 : PySem.W.nsIn K mainGlobals "_law_drawn_lot" = some (some (.ref f10))) (l10 : K.lookup f10 = some ⟨oc10, od10, .func (PySem.W.fnOf "_law_drawn_lot" "_law_drawn_lot" (defArgs s__law_drawn_lot) (defBody s__law_drawn_lot) (defScope s__law_drawn_lot) .none kV10 dc10 pm10 an10 cd10 ct10), sl10⟩) (c10 : PySem.W.codeIn K cd10 "_law_drawn_lot" = true) (k10 : PySem.W.keepIn K (.ref f10) = true)
  (a11 : PySem.W.nsIn K mainGlobals "_law_liars" = some (some (.ref f11))) (l11 : K.lookup f11 = some ⟨oc11, od11, .func (PySem.W.fnOf "_law_liars" "_law_liars" (defArgs s__law_liars) (defBody s__law_liars) (defScope s__law_liars) .none kV11 dc11 pm11 an11 cd11 ct11), sl11⟩) (c11 : PySem.W.codeIn K cd11 "_law_liars" = true) (k11 : PySem.W.keepIn K (.ref f11) = true)
  (a12 : PySem.W.nsIn K mainGlobals "_law_net" = some (some (.ref f12))) (l12 : K.lookup f12 = some ⟨oc12, od12, .func (PySem.W.fnOf "_law_net" "_law_net" (defArgs s__law_net) (defBody s__law_net) (defScope s__law_net) .none kV12 dc12 pm12 an12 cd12 ct12), sl12⟩) (c12 : PySem.W.codeIn K cd12 "_law_net" = true) (k12 : PySem.W.keepIn K (.ref f12) = true)
  (a13 : PySem.W.nsIn K mainGlobals "_law_trails" = some (some (.ref f13))) (l13 : K.lookup f13 = some ⟨oc13, od13, .func (PySem.W.fnOf "_law_trails" "_law_trails" (defArgs s__law_trails) (defBody s__law_trails) (defScope s__law_trails) .none kV13 dc13 pm13 an13 cd13 ct13), sl13⟩) (c13 : PySem.W.codeIn K cd13 "_law_trails" = true) (k13 : PySem.W.keepIn K (.ref f13) = true)
  (a14 : PySem.W.nsIn K mainGlobals "_law_ends" = some (some (.ref f14))) (l14 : K.lookup f14 = some ⟨oc14, od14, .func (PySem.W.fnOf "_law_ends" "_law_ends" (defArgs s__law_ends) (defBody s__law_ends) (defScope s__law_ends) .none kV14 dc14 pm14 an14 cd14 ct14), sl14⟩) (c14 : PySem.W.codeIn K cd14 "_law_ends" = true) (k14 : PySem.W.keepIn K (.ref f14) = true)
  (a15 : PySem.W.nsIn K mainGlobals "_law_less" = some (some (.ref f15))) (l15 : K.lookup f15 = some ⟨oc15, od15, .func (PySem.W.fnOf "_law_less" "_law_less" (defArgs s__law_less) (defBody s__law_less) (defScope s__law_less) .none kV15 dc15 pm15 an15 cd15 ct15), sl15⟩) (c15 : PySem.W.codeIn K cd15 "_law_less" = true) (k15 : PySem.W.keepIn K (.ref f15) = true)
  (a16 : PySem.W.nsIn K mainGlobals "_law_reports" = some (some (.ref f16))) (l16 : K.lookup f16 = some ⟨oc16, od16, .func (PySem.W.fnOf "_law_reports" "_law_reports" (defArgs s__law_reports) (defBody s__law_reports) (defScope s__law_reports) .none kV16 dc16 pm16 an16 cd16 ct16), sl16⟩) (c16 : PySem.W.codeIn K cd16 "_law_reports" = true) (k16 : PySem.W.keepIn K (.ref f16) = true)
  (a17 : PySem.W.nsIn K mainGlobals "_law_short" = some (some (.ref f17))) (l17 : K.lookup f17 = some ⟨oc17, od17, .func (PySem.W.fnOf "_law_short" "_law_short" (defArgs s__law_short) (defBody s__law_short) (defScope s__law_short) .none kV17 dc17 pm17 an17 cd17 ct17), sl17⟩) (c17 : PySem.W.codeIn K cd17 "_law_short" = true) (k17 : PySem.W.keepIn K (.ref f17) = true)
  (a18 : PySem.W.nsIn K mainGlobals "_law_meets" = some (some (.ref f18))) (l18 : K.lookup f18 = some ⟨oc18, od18, .func (PySem.W.fnOf "_law_meets" "_law_meets" (defArgs s__law_meets) (defBody s__law_meets) (defScope s__law_meets) .none kV18 dc18 pm18 an18 cd18 ct18), sl18⟩) (c18 : PySem.W.codeIn K cd18 "_law_meets" = true) (k18 : PySem.W.keepIn K (.ref f18) = true)
  (a19 : PySem.W.nsIn K mainGlobals "_law_hop_cut" = some (some (.ref f19))) (l19 : K.lookup f19 = some ⟨oc19, od19, .func (PySem.W.fnOf "_law_hop_cut" "_law_hop_cut" (defArgs s__law_hop_cut) (defBody s__law_hop_cut) (defScope s__law_hop_cut) .none kV19 dc19 pm19 an19 cd19 ct19), sl19⟩) (c19 : PySem.W.codeIn K cd19 "_law_hop_cut" = true) (k19 : PySem.W.keepIn K (.ref f19) = true)
  (a20 : PySem.W.nsIn K mainGlobals "_law_box" = some (some (.ref f20))) (l20 : K.lookup f20 = some ⟨oc20, od20, .func (PySem.W.fnOf "_law_box" "_law_box" (defArgs s__law_box) (defBody s__law_box) (defScope s__law_box) .none kV20 dc20 pm20 an20 cd20 ct20), sl20⟩) (c20 : PySem.W.codeIn K cd20 "_law_box" = true) (k20 : PySem.W.keepIn K (.ref f20) = true)
  (a21 : PySem.W.nsIn K mainGlobals "law" = some (some (.ref f21))) (l21 : K.lookup f21 = some ⟨oc21, od21, .func (PySem.W.fnOf "law" "law" (defArgs s_law) (defBody s_law) (defScope s_law) .none kV21 dc21 pm21 an21 cd21 ct21), sl21⟩) (c21 : PySem.W.codeIn K cd21 "law" = true) (k21 : PySem.W.keepIn K (.ref f21) = true)
  (z0 : PySem.W.nsIn K mainGlobals "abs" = some none)
  (z1 : PySem.W.nsIn K mainGlobals "all" = some none)
  (z2 : PySem.W.nsIn K mainGlobals "any" = some none)
  (z3 : PySem.W.nsIn K mainGlobals "bool" = some none)
  (z4 : PySem.W.nsIn K mainGlobals "enumerate" = some none)
  (z5 : PySem.W.nsIn K mainGlobals "int" = some none)
  (z6 : PySem.W.nsIn K mainGlobals "isinstance" = some none)
  (z7 : PySem.W.nsIn K mainGlobals "len" = some none)
  (z8 : PySem.W.nsIn K mainGlobals "list" = some none)
  (z9 : PySem.W.nsIn K mainGlobals "max" = some none)
  (z10 : PySem.W.nsIn K mainGlobals "min" = some none)
  (z11 : PySem.W.nsIn K mainGlobals "range" = some none)
  (z12 : PySem.W.nsIn K mainGlobals "set" = some none)
  (z13 : PySem.W.nsIn K mainGlobals "sorted" = some none)
  (z14 : PySem.W.nsIn K mainGlobals "str" = some none)
  (z15 : PySem.W.nsIn K mainGlobals "tuple" = some none)
  (z16 : PySem.W.nsIn K mainGlobals "zip" = some none)
  : ∃ fd : FuncData, (∀ (s : Shared) (v : Value), BindsTo s fd ⟨[v], []⟩ [("script", v)]) ∧ ∀ base : Heap, K.In base → base.Ns mainGlobals mg → FnOk l.prog w K mg base (L2.CX l.prog w) 5 fa fd ["script"] (spL K) := by
  have e := hfa.symm.trans (PySem.W.mg_of X G a21)
  cases e
  have F0 := fun_mk (st := s_less) l0 c0 k0
  have F1 := fun_mk (st := s_shared) l1 c1 k1
  have F2 := fun_mk (st := s_explains) l2 c2 k2
  have F3 := fun_mk (st := s_fit_values) l3 c3 k3
  have F4 := fun_mk (st := s_hop_answer) l4 c4 k4
  have F5 := fun_mk (st := s__law_take) l5 c5 k5
  have F6 := fun_mk (st := s__law_pick) l6 c6 k6
  have F7 := fun_mk (st := s__law_like) l7 c7 k7
  have F8 := fun_mk (st := s__law_within) l8 c8 k8
  have F9 := fun_mk (st := s__law_greatest) l9 c9 k9
  have F10 := fun_mk (st := s__law_drawn_lot) l10 c10 k10
  have F11 := fun_mk (st := s__law_liars) l11 c11 k11
  have F12 := fun_mk (st := s__law_net) l12 c12 k12
  have F13 := fun_mk (st := s__law_trails) l13 c13 k13
  have F14 := fun_mk (st := s__law_ends) l14 c14 k14
  have F15 := fun_mk (st := s__law_less) l15 c15 k15
  have F16 := fun_mk (st := s__law_reports) l16 c16 k16
  have F17 := fun_mk (st := s__law_short) l17 c17 k17
  have F18 := fun_mk (st := s__law_meets) l18 c18 k18
  have F19 := fun_mk (st := s__law_hop_cut) l19 c19 k19
  have F20 := fun_mk (st := s__law_box) l20 c20 k20
  have F21 := fun_mk (st := s_law) l21 c21 k21
  have Z : Zs mg := ⟨PySem.W.mg_none_of X G z0, PySem.W.mg_none_of X G z1, PySem.W.mg_none_of X G z2, PySem.W.mg_none_of X G z3, PySem.W.mg_none_of X G z4, PySem.W.mg_none_of X G z5, PySem.W.mg_none_of X G z6, PySem.W.mg_none_of X G z7, PySem.W.mg_none_of X G z8, PySem.W.mg_none_of X G z9, PySem.W.mg_none_of X G z10, PySem.W.mg_none_of X G z11, PySem.W.mg_none_of X G z12, PySem.W.mg_none_of X G z13, PySem.W.mg_none_of X G z14, PySem.W.mg_none_of X G z15, PySem.W.mg_none_of X G z16⟩
  refine ⟨_, fun s v => by
    exact bindsE F21 (ps := ["script"]) (fun kV doc pm an cdv ct j us ws _ h2 h3 => bs1 (B := fun j us ws => bindArgs (PySem.W.fnOf "law" "law" (defArgs s_law) (defBody s_law) (defScope s_law) .none kV doc pm an cdv ct) ⟨us, ((["script"] : List Str).drop j).zip ws⟩ = pure ((["script"] : List Str).zip (us ++ ws))) (by intros; rfl) (by intros; rfl) j us ws h2 h3) 1 s [v] [] (by decide) rfl rfl, fun base _ _ => ?_⟩
  have O0 : Own l.prog w K mg base 1 "less" ["one", "two"] [false, false] F_less := own_less Z F0 (PySem.W.mg_of X G a0) 
  have O1 : Own l.prog w K mg base 1 "shared" ["one", "two"] [false, false] F_shared := own_shared Z F1 (PySem.W.mg_of X G a1) 
  have O2 : Own l.prog w K mg base 2 "explains" ["net", "start", "end", "reports", "value", "lot"] [false, false, false, false, false, false] F_explains := own_explains Z F2 (PySem.W.mg_of X G a2) O0 O1
  have O3 : Own l.prog w K mg base 3 "fit_values" ["net", "liars", "start", "end", "values", "reports"] [false, false, false, false, false, false] F_fit_values := own_fit_values Z F3 (PySem.W.mg_of X G a3) O2
  have O4 : Own l.prog w K mg base 4 "hop_answer" ["net", "liars", "start", "end", "values", "most", "reports"] [false, false, false, false, false, false, false] F_hop_answer := own_hop_answer Z F4 (PySem.W.mg_of X G a4) O3
  have O5 : Own l.prog w K mg base 1 "_law_take" ["box", "many"] [true, false] F__law_take := own__law_take Z F5 (PySem.W.mg_of X G a5) 
  have O6 : Own l.prog w K mg base 2 "_law_pick" ["box", "some"] [true, false] F__law_pick := own__law_pick Z F6 (PySem.W.mg_of X G a6) O5
  have O7 : Own l.prog w K mg base 1 "_law_like" ["told", "due"] [false, false] F__law_like := own__law_like Z F7 (PySem.W.mg_of X G a7) 
  have O8 : Own l.prog w K mg base 1 "_law_within" ["one", "two"] [false, false] F__law_within := own__law_within Z F8 (PySem.W.mg_of X G a8) 
  have O9 : Own l.prog w K mg base 2 "_law_greatest" ["lots"] [false] F__law_greatest := own__law_greatest Z F9 (PySem.W.mg_of X G a9) O8
  have O10 : Own l.prog w K mg base 2 "_law_drawn_lot" ["box", "houses", "part"] [true, false, false] F__law_drawn_lot := own__law_drawn_lot Z F10 (PySem.W.mg_of X G a10) O5
  have O11 : Own l.prog w K mg base 3 "_law_liars" ["box", "many"] [true, false] F__law_liars := own__law_liars Z F11 (PySem.W.mg_of X G a11) O9 O5 O10 O6
  have O12 : Own l.prog w K mg base 3 "_law_net" ["box", "many", "mutual"] [true, false, false] F__law_net := own__law_net Z F12 (PySem.W.mg_of X G a12) O6 O5
  have O13 : Own l.prog w K mg base 1 "_law_trails" ["net", "start", "end"] [false, false, false] F__law_trails := own__law_trails Z F13 (PySem.W.mg_of X G a13) 
  have O14 : Own l.prog w K mg base 3 "_law_ends" ["box", "net"] [true, false] F__law_ends := own__law_ends Z F14 (PySem.W.mg_of X G a14) O6 O5
  have O15 : Own l.prog w K mg base 1 "_law_less" ["lot", "others"] [false, false] F__law_less := own__law_less Z F15 (PySem.W.mg_of X G a15) 
  have O16 : Own l.prog w K mg base 3 "_law_reports" ["box", "net", "start", "end", "value", "lot", "values"] [true, false, false, false, false, false, false] F__law_reports := own__law_reports Z F16 (PySem.W.mg_of X G a16) O13 O5 O6
  have O17 : Own l.prog w K mg base 2 "_law_short" ["net", "start", "end", "most"] [false, false, false, false] F__law_short := own__law_short Z F17 (PySem.W.mg_of X G a17) O13
  have O18 : Own l.prog w K mg base 1 "_law_meets" ["rows", "lots"] [false, false] F__law_meets := own__law_meets Z F18 (PySem.W.mg_of X G a18) 
  have O19 : Own l.prog w K mg base 3 "_law_hop_cut" ["net", "liars", "start", "end", "most"] [false, false, false, false, false] F__law_hop_cut := own__law_hop_cut Z F19 (PySem.W.mg_of X G a19) O17 O15 O18
  have O20 : Own l.prog w K mg base 1 "_law_box" ["script", "k"] [false, false] F__law_box := own__law_box Z F20 (PySem.W.mg_of X G a20) 
  exact (fnok_law Z F21 (PySem.W.mg_of X G a21) O20 O12 O6 O11 O14 O15 O5 O16 O19 O7 O10 O4).imp (spL_of math)
end K02
open PySem PySem.W PyProof.Rows
set_option maxHeartbeats 0 in
theorem PySem.Challenge.cw_nonelearns_k02_whole_told_in_so_many_rou_holds : PySem.Challenge.rw_nonelearns_k02_whole_told_in_so_many_rou.Holds := by
  w_on; o_law; k_head; (case hw => w_witness2)
  k_fill
  refine L2.walk_of (l := PySem.Challenge.rw_nonelearns_k02_whole_told_in_so_many_rou) (n := 63) (k := 5) (x := "script") (CX := fun w => L2.CX PySem.Challenge.rw_nonelearns_k02_whole_told_in_so_many_rou.prog w) (sp := fun w => EE.spL _) rfl (by decide) rfl ⟨rfl, by decide, by decide⟩ (fun w h Y => PySem.W.kIn_of Y) ?F (fun _ _ a ns hl ho hS => ⟨a, ns, rfl, EE.sqZ_of hS ho, hl, fun _ => rfl⟩) (fun _ _ _ _ _ h => EE.cx_no h)
  case F =>
    intro w mg fa h KX G hmg
    refine' K02.all_mk KX G hmg ?a0 ?l0 ?c0 ?k0 ?a1 ?l1 ?c1 ?k1 ?a2 ?l2 ?c2 ?k2 ?a3 ?l3 ?c3 ?k3 ?a4 ?l4 ?c4 ?k4 ?a5 ?l5 ?c5 ?k5 ?a6 ?l6 ?c6 ?k6 ?a7 ?l7 ?c7 ?k7 ?a8 ?l8 ?c8 ?k8 ?a9 ?l9 ?c9 ?k9 ?a10 ?l10 ?c10 ?k10 ?a11 ?l11 ?c11 ?k11 ?a12 ?l12 ?c12 ?k12 ?a13 ?l13 ?c13 ?k13 ?a14 ?l14 ?c14 ?k14 ?a15 ?l15 ?c15 ?k15 ?a16 ?l16 ?c16 ?k16 ?a17 ?l17 ?c17 ?k17 ?a18 ?l18 ?c18 ?k18 ?a19 ?l19 ?c19 ?k19 ?a20 ?l20 ?c20 ?k20 ?a21 ?l21 ?c21 ?k21 ?z0 ?z1 ?z2 ?z3 ?z4 ?z5 ?z6 ?z7 ?z8 ?z9 ?z10 ?z11 ?z12 ?z13 ?z14 ?z15 ?z16
    (case a0 => k_is); (case l0 => k_is); (case c0 => k_is); (case k0 => k_is)
    (case a1 => k_is); (case l1 => k_is); (case c1 => k_is); (case k1 => k_is)
    (case a2 => k_is); (case l2 => k_is); (case c2 => k_is); (case k2 => k_is)
    (case a3 => k_is); (case l3 => k_is); (case c3 => k_is); (case k3 => k_is)
    (case a4 => k_is); (case l4 => k_is); (case c4 => k_is); (case k4 => k_is)
    (case a5 => k_is); (case l5 => k_is); (case c5 => k_is); (case k5 => k_is)
    (case a6 => k_is); (case l6 => k_is); (case c6 => k_is); (case k6 => k_is)
    (case a7 => k_is); (case l7 => k_is); (case c7 => k_is); (case k7 => k_is)
    (case a8 => k_is); (case l8 => k_is); (case c8 => k_is); (case k8 => k_is)
    (case a9 => k_is); (case l9 => k_is); (case c9 => k_is); (case k9 => k_is)
    (case a10 => k_is); (case l10 => k_is); (case c10 => k_is); (case k10 => k_is)
    (case a11 => k_is); (case l11 => k_is); (case c11 => k_is); (case k11 => k_is)
    (case a12 => k_is); (case l12 => k_is); (case c12 => k_is); (case k12 => k_is)
    (case a13 => k_is); (case l13 => k_is); (case c13 => k_is); (case k13 => k_is)
    (case a14 => k_is); (case l14 => k_is); (case c14 => k_is); (case k14 => k_is)
    (case a15 => k_is); (case l15 => k_is); (case c15 => k_is); (case k15 => k_is)
    (case a16 => k_is); (case l16 => k_is); (case c16 => k_is); (case k16 => k_is)
    (case a17 => k_is); (case l17 => k_is); (case c17 => k_is); (case k17 => k_is)
    (case a18 => k_is); (case l18 => k_is); (case c18 => k_is); (case k18 => k_is)
    (case a19 => k_is); (case l19 => k_is); (case c19 => k_is); (case k19 => k_is)
    (case a20 => k_is); (case l20 => k_is); (case c20 => k_is); (case k20 => k_is)
    (case a21 => k_is); (case l21 => k_is); (case c21 => k_is); (case k21 => k_is)
    (case z0 => k_is); (case z1 => k_is); (case z2 => k_is); (case z3 => k_is); (case z4 => k_is); (case z5 => k_is); (case z6 => k_is); (case z7 => k_is); (case z8 => k_is); (case z9 => k_is); (case z10 => k_is); (case z11 => k_is); (case z12 => k_is); (case z13 => k_is); (case z14 => k_is); (case z15 => k_is); (case z16 => k_is)

