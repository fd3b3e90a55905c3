import PyProof.Rows.All
import Wide.All
import OpenK.AllK
import Wide.FinOn
import KE.KStateDown
import HandS.ForMost
import HandS.Walk
import HandS.More
import HandS.Deep
import HandS.TupAny
import HandS.Exc
import HandS.TryOnly
import HandS.ExcOwn
import HandS.WordsExc
import HandS.CallSlots
import HandS.Defaults
import HandS.Flow
import HandS.Head0
import HandS.Head1
import HandS.Head2
import HandS.HeadEnd
import HandS.HeadHook1
import HandS.HeadHook2
import PySem.Challenge.RW_switchyard_k03_types
set_option Elab.async false
set_option linter.all false
set_option maxRecDepth 100000
set_option maxHeartbeats 4000000
/-! Mi1: a small evaluator's data: values, cells, results; what a value stands for on the heap. -/
namespace Mi
open PySem PySem.Spec PyProof.Rows L2

/-- values: tup, lst are never changed; frl is a list that is read alone (the script, a list of the module); ref is a cell -/
inductive W where
  | non | bl (b : Bool) | int (i : Int) | str (s : Str) | tup (xs : List W) | lst (xs : List W) | frl (xs : List W) | ref (n : Nat)
/-- a cell -/
inductive SO where
  | lst (xs : List W)
abbrev Sto := List SO
abbrev Env' := List (Option W)

/-- results -/
inductive R (α : Type) where
  | ok (a : α) (S : Sto)
  | exc (c : Str) (fs : List (Str × W)) (env : Env') (S : Sto)
  | bad
def R.bind {α β : Type} (r : R α) (f : α → Sto → R β) : R β := match r with
  | .ok a S => f a S
  | .exc c fs e S => .exc c fs e S
  | .bad => .bad
def lift {α : Type} (o : Option α) (S : Sto) : R α := match o with
  | some a => .ok a S
  | none => .bad
def guard' (b : Bool) {α : Type} (r : R α) : R α := match b with
  | true => r
  | false => .bad

/-! ### what a value stands for -/
mutual
inductive Rep (K : PySem.W.Frag) (B : Hp) (ρ : List Addr) : V → W → Prop
  | non : Rep K B ρ .non .non
  | bl (b : Bool) : Rep K B ρ (.bl b) (.bl b)
  | int (i : Int) : Rep K B ρ (.int i) (.int i)
  | str (s : Str) : Rep K B ρ (.str s) (.str s)
  | tup {a : Addr} {xs : List V} {ws : List W} : SqT K B a xs → RepL K B ρ xs ws → Rep K B ρ (.ref a) (.tup ws)
  | lst {a : Addr} {xs : List V} {ws : List W} : B a = some (.lst xs) → RepL K B ρ xs ws → Rep K B ρ (.ref a) (.lst ws)
  | frl {a : Addr} {xs : List V} {ws : List W} : SqL K B a xs → RepL K B ρ xs ws → Rep K B ρ (.ref a) (.frl ws)
  | ref {n : Nat} {a : Addr} : ρ[n]? = some a → Rep K B ρ (.ref a) (.ref n)
inductive RepL (K : PySem.W.Frag) (B : Hp) (ρ : List Addr) : List V → List W → Prop
  | nil : RepL K B ρ [] []
  | cons {v : V} {vs : List V} {w : W} {ws : List W} : Rep K B ρ v w → RepL K B ρ vs ws → RepL K B ρ (v :: vs) (w :: ws)
end

theorem Same.tup {K : PySem.W.Frag} {H H' : Hp} {a : Addr} {xs : List V} (e : Same H H') (h : SqT K H a xs) : SqT K H' a xs := by
  rcases h with (h | ⟨o, h⟩) | h
  · exact .inl (.inl (e _ _ h))
  · exact .inl (.inr ⟨o, e _ _ h⟩)
  · exact .inr h

section
variable {K : PySem.W.Frag} {B B' : Hp} {ρ ρ' : List Addr}
theorem pre_get {ρ ρ' : List Addr} (p : ∃ m, ρ' = ρ ++ m) {n : Nat} {a : Addr} (h : ρ[n]? = some a) : ρ'[n]? = some a := by
  obtain ⟨m, rfl⟩ := p
  have hl : n < ρ.length := (List.getElem?_eq_some_iff.mp h).1
  rw [List.getElem?_append_left hl]
  exact h
mutual
theorem Rep.mono (s : Same B B') (p : ∃ m, ρ' = ρ ++ m) : ∀ {v : V} {w : W}, Rep K B ρ v w → Rep K B' ρ' v w
  | _, _, .non => .non
  | _, _, .bl b => .bl b
  | _, _, .int i => .int i
  | _, _, .str x => .str x
  | _, _, .tup h r => .tup (Same.tup s h) (RepL.mono s p r)
  | _, _, .lst h r => .lst (s _ _ h) (RepL.mono s p r)
  | _, _, .frl h r => .frl (s.seq h) (RepL.mono s p r)
  | _, _, .ref h => .ref (pre_get p h)
theorem RepL.mono (s : Same B B') (p : ∃ m, ρ' = ρ ++ m) : ∀ {vs : List V} {ws : List W}, RepL K B ρ vs ws → RepL K B' ρ' vs ws
  | _, _, .nil => .nil
  | _, _, .cons h r => .cons (Rep.mono s p h) (RepL.mono s p r)
end
theorem RepL.length : ∀ {vs : List V} {ws : List W}, RepL K B ρ vs ws → vs.length = ws.length
  | _, _, .nil => rfl
  | _, _, .cons _ r => congrArg Nat.succ (RepL.length r)
theorem RepL.get : ∀ {vs : List V} {ws : List W} {i : Nat} {w : W}, RepL K B ρ vs ws → ws[i]? = some w → ∃ v, vs[i]? = some v ∧ Rep K B ρ v w
  | _, _, _, _, .nil, h => by simp at h
  | _, _, 0, _, .cons h r, e => by
    simp at e; subst e; exact ⟨_, rfl, h⟩
  | _, _, i + 1, _, .cons h r, e => by
    obtain ⟨v, e1, e2⟩ := RepL.get (i := i) r (by simpa using e)
    exact ⟨v, by simpa using e1, e2⟩
theorem RepL.get' : ∀ {vs : List V} {ws : List W} {i : Nat} {v : V}, RepL K B ρ vs ws → vs[i]? = some v → ∃ w, ws[i]? = some w ∧ Rep K B ρ v w
  | _, _, _, _, .nil, h => by simp at h
  | _, _, 0, _, .cons h r, e => by
    simp at e; subst e; exact ⟨_, rfl, h⟩
  | _, _, i + 1, _, .cons h r, e => by
    obtain ⟨v, e1, e2⟩ := RepL.get' (i := i) r (by simpa using e)
    exact ⟨v, by simpa using e1, e2⟩
theorem RepL.append : ∀ {vs us : List V} {ws xs : List W}, RepL K B ρ vs ws → RepL K B ρ us xs → RepL K B ρ (vs ++ us) (ws ++ xs)
  | _, _, _, _, .nil, s => s
  | _, _, _, _, .cons h r, s => .cons h (RepL.append r s)
theorem RepL.drop : ∀ {vs : List V} {ws : List W} (n : Nat), RepL K B ρ vs ws → RepL K B ρ (vs.drop n) (ws.drop n)
  | _, _, 0, r => r
  | _, _, _ + 1, .nil => .nil
  | _, _, n + 1, .cons _ t => RepL.drop n t
theorem RepL.take : ∀ {vs : List V} {ws : List W} (n : Nat), RepL K B ρ vs ws → RepL K B ρ (vs.take n) (ws.take n)
  | _, _, 0, _ => .nil
  | _, _, _ + 1, .nil => .nil
  | _, _, n + 1, .cons h t => .cons h (RepL.take n t)
theorem RepL.set {v : V} {w : W} (h : Rep K B ρ v w) : ∀ {vs : List V} {ws : List W} (i : Nat), RepL K B ρ vs ws → RepL K B ρ (vs.set i v) (ws.set i w)
  | _, _, _, .nil => .nil
  | _, _, 0, .cons _ t => .cons h t
  | _, _, i + 1, .cons q t => .cons q (RepL.set h i t)
end

/-- what a cell stands for -/
inductive RepO (K : PySem.W.Frag) (B : Hp) (ρ : List Addr) : HO → SO → Prop
  | lst {xs : List V} {ws : List W} : RepL K B ρ xs ws → RepO K B ρ (.lst xs) (.lst ws)
theorem RepO.mono {K : PySem.W.Frag} {B B' : Hp} {ρ ρ' : List Addr} (s : Same B B') (p : ∃ m, ρ' = ρ ++ m) {u : HO} {o : SO} (h : RepO K B ρ u o) : RepO K B' ρ' u o := by
  cases h with
  | lst r => exact .lst (RepL.mono s p r)

/-- the state: B what never changes, ρ the cells' addresses -/
structure SR (K : PySem.W.Frag) (ρ : List Addr) (S : Sto) (B H : Hp) : Prop where
  same : Same B H
  len : ρ.length = S.length
  nd : ρ.Nodup
  cell : ∀ (i : Nat) (a : Addr) (o : SO), ρ[i]? = some a → S[i]? = some o → B a = none ∧ ∃ u, H a = some u ∧ RepO K B ρ u o
/-- from one state to a later one -/
structure Ext (ρ : List Addr) (B H : Hp) (ρ' : List Addr) (B' H' : Hp) : Prop where
  b : Same B B'
  p : ∃ m, ρ' = ρ ++ m ∧ ∀ a ∈ m, H a = none
  frame : ∀ a o, H a = some o → a ∉ ρ → H' a = some o
  there : ∀ a o, H a = some o → ∃ o', H' a = some o'
  new : ∀ a o, H a = some o → B a = none → B' a = none
section
variable {K : PySem.W.Frag} {ρ ρ1 ρ2 : List Addr} {S : Sto} {B B1 B2 H H1 H2 : Hp}
theorem Ext.pre (e : Ext ρ B H ρ1 B1 H1) : ∃ m, ρ1 = ρ ++ m := by
  obtain ⟨m, h, _⟩ := e.p
  exact ⟨m, h⟩
theorem Ext.refl : Ext ρ B H ρ B H := ⟨Same.refl B, ⟨[], by simp, fun a h => by simp at h⟩, fun _ _ h _ => h, fun _ o h => ⟨o, h⟩, fun _ _ _ h => h⟩
theorem Ext.trans (a : Ext ρ B H ρ1 B1 H1) (b : Ext ρ1 B1 H1 ρ2 B2 H2) : Ext ρ B H ρ2 B2 H2 := by
  obtain ⟨m1, e1, n1⟩ := a.p
  obtain ⟨m2, e2, n2⟩ := b.p
  refine ⟨a.b.trans b.b, ⟨m1 ++ m2, by rw [e2, e1, List.append_assoc], fun c hc => ?_⟩, fun c o h hn => ?_, fun c o h => ?_, fun c o h hn => ?_⟩
  · rcases List.mem_append.mp hc with hc | hc
    · exact n1 c hc
    · cases q : H c with
      | none => rfl
      | some o =>
        obtain ⟨o', z⟩ := a.there c o q
        rw [n2 c hc] at z
        cases z
  · refine b.frame c o (a.frame c o h hn) fun hm => ?_
    rw [e1] at hm
    rcases List.mem_append.mp hm with hm | hm
    · exact hn hm
    · rw [n1 c hm] at h
      cases h
  · obtain ⟨o', z⟩ := a.there c o h
    exact b.there c o' z
  · obtain ⟨o', z⟩ := a.there c o h
    exact b.new c o' z (a.new c o h hn)
/-- a new object that never changes -/
theorem Ext.fresh {a : Addr} {o : HO} (s : Same B H) (h : H a = none) : Ext ρ B H ρ (upd B a o) (upd H a o) := by
  have hb : B a = none := s.free h
  refine ⟨fun c u q => ?_, ⟨[], by simp, fun a h => by simp at h⟩, fun c u q _ => ?_, fun c u q => ⟨u, ?_⟩, fun c u q n => ?_⟩
  · rw [upd_ne (ne_of_none q hb)]
    exact q
  · rw [upd_ne (ne_of_none q h)]
    exact q
  · rw [upd_ne (ne_of_none q h)]
    exact q
  · rw [upd_ne (ne_of_none q h)]
    exact n
theorem SR.fresh {a : Addr} {o : HO} (s : SR K ρ S B H) (h : H a = none) : SR K ρ S (upd B a o) (upd H a o) := by
  have hb : B a = none := s.same.free h
  have sm : Same B (upd B a o) := fun c u q => by
    rw [upd_ne (ne_of_none q hb)]
    exact q
  refine ⟨fun c u q => ?_, s.len, s.nd, fun i c so e1 e2 => ?_⟩
  · by_cases hc : c = a
    · subst hc
      rw [upd_same] at q ⊢
      exact q
    · rw [upd_ne hc] at q ⊢
      exact s.same c u q
  · obtain ⟨n, u, hu, r⟩ := s.cell i c so e1 e2
    have hc : c ≠ a := ne_of_none hu h
    exact ⟨by rw [upd_ne hc]; exact n, u, by rw [upd_ne hc]; exact hu, r.mono sm ⟨[], by simp⟩⟩
/-- garbage: a new object that is not held -/
theorem Ext.junk {a : Addr} {o : HO} (h : H a = none) : Ext ρ B H ρ B (upd H a o) := by
  refine ⟨Same.refl B, ⟨[], by simp, fun a h => by simp at h⟩, fun c u q _ => ?_, fun c u q => ⟨u, ?_⟩, fun c u q n => n⟩
  · rw [upd_ne (ne_of_none q h)]
    exact q
  · rw [upd_ne (ne_of_none q h)]
    exact q
theorem SR.junk {a : Addr} {o : HO} (s : SR K ρ S B H) (h : H a = none) : SR K ρ S B (upd H a o) := by
  have hb : B a = none := s.same.free h
  refine ⟨fun c u q => ?_, s.len, s.nd, fun i c so e1 e2 => ?_⟩
  · rw [upd_ne (ne_of_none q hb)]
    exact s.same c u q
  · obtain ⟨n, u, hu, r⟩ := s.cell i c so e1 e2
    exact ⟨n, u, by rw [upd_ne (ne_of_none hu h)]; exact hu, r⟩
/-- a new cell -/
theorem Ext.cell {a : Addr} {o : HO} (h : H a = none) : Ext ρ B H (ρ ++ [a]) B (upd H a o) := by
  refine ⟨Same.refl B, ⟨[a], rfl, fun c hc => ?_⟩, fun c u q _ => ?_, fun c u q => ⟨u, ?_⟩, fun c u q n => n⟩
  · rw [List.mem_singleton.mp hc]
    exact h
  · rw [upd_ne (ne_of_none q h)]
    exact q
  · rw [upd_ne (ne_of_none q h)]
    exact q
theorem SR.newCell {a : Addr} {o : HO} {so : SO} (s : SR K ρ S B H) (h : H a = none) (r : RepO K B ρ o so) : SR K (ρ ++ [a]) (S ++ [so]) B (upd H a o) := by
  have hb : B a = none := s.same.free h
  have hin : a ∉ ρ := fun hm => by
    obtain ⟨i, hi⟩ := List.getElem?_of_mem hm
    have hl : i < S.length := by rw [← s.len]; exact (List.getElem?_eq_some_iff.mp hi).1
    obtain ⟨_, u, hu, _⟩ := s.cell i a S[i] hi (by simp [hl])
    rw [h] at hu
    cases hu
  refine ⟨fun c u q => ?_, by simp [s.len], ?_, fun i c so' e1 e2 => ?_⟩
  · rw [upd_ne (ne_of_none q hb)]
    exact s.same c u q
  · rw [List.nodup_append]
    refine ⟨s.nd, by simp, fun x hx y hy e => ?_⟩
    rw [List.mem_singleton.mp hy] at e
    rw [e] at hx
    exact hin hx
  · by_cases hi : i < ρ.length
    · rw [List.getElem?_append_left hi] at e1
      rw [List.getElem?_append_left (by rw [← s.len]; exact hi)] at e2
      obtain ⟨n, u, hu, q⟩ := s.cell i c so' e1 e2
      exact ⟨n, u, by rw [upd_ne (ne_of_none hu h)]; exact hu, q.mono (Same.refl B) ⟨[a], rfl⟩⟩
    · have hl : i = ρ.length := by
        have z := (List.getElem?_eq_some_iff.mp e1).1
        simp at z
        omega
      subst hl
      simp at e1
      rw [s.len] at e2
      simp at e2
      subst e1
      subst e2
      exact ⟨hb, o, upd_same, r.mono (Same.refl B) ⟨[a], rfl⟩⟩
/-- a cell changed -/
theorem SR.setCell {a : Addr} {i : Nat} {o : HO} {so : SO} (s : SR K ρ S B H) (e : ρ[i]? = some a) (r : RepO K B ρ o so) : SR K ρ (S.set i so) B (upd H a o) := by
  have hi : i < ρ.length := (List.getElem?_eq_some_iff.mp e).1
  have hs : i < S.length := by rw [← s.len]; exact hi
  obtain ⟨hb, u, hu, _⟩ := s.cell i a S[i] e (by simp [hs])
  refine ⟨fun c v q => ?_, by simp [s.len], s.nd, fun j c so' e1 e2 => ?_⟩
  · rw [upd_ne (ne_of_none q hb)]
    exact s.same c v q
  · by_cases hj : i = j
    · subst hj
      rw [e] at e1
      cases e1
      rw [List.getElem?_set_self hs] at e2
      cases e2
      exact ⟨hb, o, upd_same, r⟩
    · rw [List.getElem?_set_ne hj] at e2
      obtain ⟨n, v, hv, q⟩ := s.cell j c so' e1 e2
      have hne : c ≠ a := fun z => by
        subst z
        have hj' : j < ρ.length := (List.getElem?_eq_some_iff.mp e1).1
        have e3 : ρ[i] = c := by have := (List.getElem?_eq_some_iff.mp e).2; exact this
        have e4 : ρ[j] = c := by have := (List.getElem?_eq_some_iff.mp e1).2; exact this
        exact hj ((List.getElem_inj s.nd).mp (e3.trans e4.symm))
      exact ⟨n, v, by rw [upd_ne hne]; exact hv, q⟩
theorem Ext.setCell {a : Addr} {i : Nat} {o : HO} (e : ρ[i]? = some a) : Ext ρ B H ρ B (upd H a o) := by
  have hm : a ∈ ρ := List.mem_of_getElem? e
  refine ⟨Same.refl B, ⟨[], by simp, fun a h => by simp at h⟩, fun c u q hn => ?_, fun c u q => ?_, fun c u q n => n⟩
  · rw [upd_ne (fun z => hn (by rw [z]; exact hm))]
    exact q
  · by_cases hc : c = a
    · subst hc
      exact ⟨o, upd_same⟩
    · exact ⟨u, by rw [upd_ne hc]; exact q⟩
theorem SR.at {i : Nat} {a : Addr} {o : SO} (s : SR K ρ S B H) (e : ρ[i]? = some a) (h : S[i]? = some o) : ∃ u, H a = some u ∧ RepO K B ρ u o := (s.cell i a o e h).2
end

/-! ### results that hold what is asked of them -/
section
variable {K : PySem.W.Frag}
def Hold (K : PySem.W.Frag) {α : Type} (r : R α) (ρ : List Addr) (B H : Hp) (ok : α → Sto → List Addr → Hp → Hp → Prop) (ex : Str → List (Str × W) → Env' → List Addr → Hp → Hp → Prop) : Prop := match r with
  | .ok a S => ∀ ρ' B' H', Ext ρ B H ρ' B' H' → SR K ρ' S B' H' → ok a S ρ' B' H'
  | .exc c fs e S => ∀ ρ' B' H', Ext ρ B H ρ' B' H' → SR K ρ' S B' H' → ex c fs e ρ' B' H'
  | .bad => False
variable {α β : Type} {r : R α} {f : α → Sto → R β} {ρ ρ1 : List Addr} {B H B1 H1 : Hp} {ok ok' : α → Sto → List Addr → Hp → Hp → Prop} {okb : β → Sto → List Addr → Hp → Hp → Prop} {ex ex' : Str → List (Str × W) → Env' → List Addr → Hp → Hp → Prop}
theorem Hold.ext (h : Hold K r ρ B H ok ex) (e : Ext ρ B H ρ1 B1 H1) : Hold K r ρ1 B1 H1 ok ex := by
  cases r with
  | ok a S => exact fun ρ' B' H' e' s => h ρ' B' H' (e.trans e') s
  | exc c fs en S => exact fun ρ' B' H' e' s => h ρ' B' H' (e.trans e') s
  | bad => exact h
theorem Hold.imp (h : Hold K r ρ B H ok ex) (f : ∀ a S ρ' B' H', Ext ρ B H ρ' B' H' → SR K ρ' S B' H' → ok a S ρ' B' H' → ok' a S ρ' B' H')
    (g : ∀ c fs e ρ' B' H', ex c fs e ρ' B' H' → ex' c fs e ρ' B' H') : Hold K r ρ B H ok' ex' := by
  cases r with
  | ok a S => exact fun ρ' B' H' e' s => f _ _ _ _ _ e' s (h ρ' B' H' e' s)
  | exc c fs en S => exact fun ρ' B' H' e' s => g _ _ _ _ _ _ (h ρ' B' H' e' s)
  | bad => exact h
theorem Hold.bind (h : Hold K (r.bind f) ρ B H okb ex) : Hold K r ρ B H (fun a S ρ' B' H' => Hold K (f a S) ρ' B' H' okb ex) ex := by
  cases r with
  | ok a S => exact fun ρ' B' H' e' s => Hold.ext (show Hold K (f a S) ρ B H okb ex from h) e'
  | exc c fs en S => exact h
  | bad => exact h
theorem Hold.lift {o : Option α} {S : Sto} (h : Hold K (lift o S) ρ B H ok ex) : ∃ a, o = some a ∧ ∀ ρ' B' H', Ext ρ B H ρ' B' H' → SR K ρ' S B' H' → ok a S ρ' B' H' := by
  cases o with
  | none => exact h.elim
  | some a => exact ⟨a, rfl, h⟩
theorem Hold.grd {b : Bool} (h : Hold K (guard' b r) ρ B H ok ex) : b = true ∧ Hold K r ρ B H ok ex := by
  cases b with
  | false => exact h.elim
  | true => exact ⟨rfl, h⟩
end
end Mi

set_option Elab.async false
set_option linter.all false
set_option maxRecDepth 100000
set_option maxHeartbeats 4000000
/-! Mi2: the evaluator's operations on values. -/
namespace Mi
open PySem PySem.Spec PyProof.Rows L2

/-! ### flat values -/
def toV : W → Option V
  | .non => some .non
  | .bl b => some (.bl b)
  | .int i => some (.int i)
  | .str s => some (.str s)
  | _ => none
def flatW : W → Bool
  | .non => true
  | .bl _ => true
  | .int _ => true
  | .str _ => true
  | _ => false
def eqW : W → W → Bool
  | .non, .non => true
  | .bl a, .bl b => a == b
  | .bl a, .int b => (if a then 1 else 0) == b
  | .int a, .bl b => a == (if b then 1 else 0)
  | .int a, .int b => a == b
  | .str a, .str b => a == b
  | _, _ => false
def inW (x : W) (xs : List W) : Bool := xs.any fun y => eqW y x

section
variable {K : PySem.W.Frag} {B H : Hp} {ρ : List Addr}
theorem Rep.flat {v : V} {w : W} (r : Rep K B ρ v w) (h : flatW w = true) : flatV v = true ∧ toV w = some v := by
  cases r with
  | non => exact ⟨rfl, rfl⟩
  | bl b => exact ⟨rfl, rfl⟩
  | int b => exact ⟨rfl, rfl⟩
  | str b => exact ⟨rfl, rfl⟩
  | tup _ _ => cases h
  | lst _ _ => cases h
  | frl _ _ => cases h
  | ref _ => cases h
theorem eqW_V {v v' : V} {w w' : W} (r : Rep K B ρ v w) (r' : Rep K B ρ v' w') (h : flatW w = true) (h' : flatW w' = true) : eqV v v' = eqW w w' := by
  cases r <;> first | (cases h; done) | (cases r' <;> first | (cases h'; done) | rfl)
theorem RepL.flat : ∀ {vs : List V} {ws : List W}, RepL K B ρ vs ws → ws.all flatW = true → vs.all flatV = true
  | _, _, .nil, _ => rfl
  | _, _, .cons r t, h => by
    rw [List.all_cons, Bool.and_eq_true] at h ⊢
    exact ⟨(r.flat h.1).1, RepL.flat t h.2⟩
theorem inW_V {v : V} {w : W} (r : Rep K B ρ v w) (h : flatW w = true) : ∀ {vs : List V} {ws : List W}, RepL K B ρ vs ws → ws.all flatW = true → inV v vs = inW w ws
  | _, _, .nil, _ => rfl
  | _, _, .cons q t, hs => by
    rw [List.all_cons, Bool.and_eq_true] at hs
    have ih := inW_V r h t hs.2
    unfold inV inW at ih ⊢
    rw [List.any_cons, List.any_cons, ih, eqW_V q r hs.1 h]
end

/-! ### data -/
mutual
def toD : W → Option PyData
  | .non => some .none
  | .bl b => some (.bool b)
  | .int i => some (.int i)
  | .str s => some (.str s)
  | .tup xs => (toDs xs).map PyData.tuple
  | .lst xs => (toDs xs).map PyData.list
  | .frl xs => (toDs xs).map PyData.list
  | .ref _ => none
def toDs : List W → Option (List PyData)
  | [] => some []
  | x :: r => match toD x, toDs r with
    | some d, some ds => some (d :: ds)
    | _, _ => none
end
section
variable {K : PySem.W.Frag} {B H : Hp} {ρ : List Addr}
mutual
theorem Rep.dp (s : Same B H) : ∀ {v : V} {w : W} {d : PyData}, Rep K B ρ v w → toD w = some d → Dp K H v d
  | _, _, _, .non, e => by cases e; exact .non
  | _, _, _, .bl b, e => by cases e; exact .bl b
  | _, _, _, .int b, e => by cases e; exact .int b
  | _, _, _, .str b, e => by cases e; exact .str b
  | _, .tup ws, d, .tup h r, e => by
    rw [toD] at e
    cases q : toDs ws with
    | none => rw [q] at e; cases e
    | some ds =>
      rw [q] at e
      cases e
      exact .tup (Same.tup s h) (RepL.dp s r q)
  | _, .lst ws, d, .lst h r, e => by
    rw [toD] at e
    cases q : toDs ws with
    | none => rw [q] at e; cases e
    | some ds =>
      rw [q] at e
      cases e
      exact .lst (SqL.of (s _ _ h)) (RepL.dp s r q)
  | _, .frl ws, d, .frl h r, e => by
    rw [toD] at e
    cases q : toDs ws with
    | none => rw [q] at e; cases e
    | some ds =>
      rw [q] at e
      cases e
      exact .lst (s.seq h) (RepL.dp s r q)
  | _, .ref n, d, .ref h, e => by rw [toD] at e; cases e
theorem RepL.dp (s : Same B H) : ∀ {vs : List V} {ws : List W} {ds : List PyData}, RepL K B ρ vs ws → toDs ws = some ds → DpAll K H vs ds
  | _, [], _, .nil, e => by
    rw [toDs] at e
    cases e
    exact .nil
  | _, w :: ws, ds, .cons h r, e => by
    rw [toDs] at e
    cases q1 : toD w with
    | none => rw [q1] at e; cases e
    | some d =>
      cases q2 : toDs ws with
      | none => rw [q1, q2] at e; cases e
      | some ds' =>
        rw [q1, q2] at e
        cases e
        exact .cons (Rep.dp s h q1) (RepL.dp s r q2)
end
end

/-! ### reading cells -/
def rd (S : Sto) : W → W
  | .ref n => match S[n]? with
    | some (.lst ws) => .lst ws
    | none => .ref n
  | w => w
/-- the items of a list -/
def seqL (S : Sto) : W → Option (List W)
  | .lst ws => some ws
  | .frl ws => some ws
  | .ref n => match S[n]? with
    | some (.lst ws) => some ws
    | none => none
  | _ => none
def seqT : W → Option (List W)
  | .tup ws => some ws
  | _ => none
section
variable {K : PySem.W.Frag} {B H : Hp} {ρ : List Addr} {S : Sto}
theorem seqL_ok (s : SR K ρ S B H) {v : V} {w : W} {ws : List W} (r : Rep K B ρ v w) (e : seqL S w = some ws) : ∃ a xs, v = .ref a ∧ SqL K H a xs ∧ RepL K B ρ xs ws := by
  cases r with
  | lst h q => cases e; exact ⟨_, _, rfl, SqL.of (s.same _ _ h), q⟩
  | frl h q => cases e; exact ⟨_, _, rfl, s.same.seq h, q⟩
  | @ref n a h =>
    unfold seqL at e
    cases q : S[n]? with
    | none => simp only [q] at e; cases e
    | some o =>
      simp only [q] at e
      cases o with
      | lst zs =>
        cases e
        obtain ⟨u, hu, ro⟩ := s.at h q
        cases ro with
        | lst rr => exact ⟨_, _, rfl, SqL.of hu, rr⟩
  | _ => cases e
theorem seqT_ok (s : SR K ρ S B H) {v : V} {w : W} {ws : List W} (r : Rep K B ρ v w) (e : seqT w = some ws) : ∃ a xs, v = .ref a ∧ SqT K H a xs ∧ RepL K B ρ xs ws := by
  cases r with
  | tup h q => cases e; exact ⟨_, _, rfl, Same.tup s.same h, q⟩
  | _ => cases e
/-- the data of a value, a cell's too -/
def datS (S : Sto) : W → Option PyData
  | .ref n => match S[n]? with
    | some (.lst ws) => (toDs ws).map PyData.list
    | none => none
  | w => toD w
theorem datS_ok (s : SR K ρ S B H) {v : V} {w : W} {d : PyData} (r : Rep K B ρ v w) (e : datS S w = some d) : Dp K H v d := by
  cases r with
  | @ref n a h =>
    unfold datS at e
    cases q : S[n]? with
    | none => simp only [q] at e; cases e
    | some o =>
      simp only [q] at e
      cases o with
      | lst zs =>
        cases q2 : toDs zs with
        | none => simp only [q2] at e; cases e
        | some ds =>
          simp only [q2] at e
          cases e
          obtain ⟨u, hu, ro⟩ := s.at h q
          cases ro with
          | lst rr => exact .lst (SqL.of hu) (RepL.dp s.same rr q2)
  | non => exact Rep.dp (ρ := ρ) s.same (.non) e
  | bl b => exact Rep.dp (ρ := ρ) s.same (.bl b) e
  | int b => exact Rep.dp (ρ := ρ) s.same (.int b) e
  | str b => exact Rep.dp (ρ := ρ) s.same (.str b) e
  | tup h q => exact Rep.dp s.same (.tup h q) e
  | lst h q => exact Rep.dp s.same (.lst h q) e
  | frl h q => exact Rep.dp s.same (.frl h q) e
end

/-! ### the operations, semantically -/
def opW (X : Cx) (f : Value → Value → Sem Value) : R2 := fun x y H Q => ∀ pins s σ v u, Inv X pins σ H s → RelV x v → RelV y u → wpAny (model X.prog X.w) X.A (f v u) (EP X pins σ Q) X.xe s
theorem opW_r {X : Cx} {f : Value → Value → Sem Value} : OpR X f (opW X f) := fun pins s σ H x y v u Q I rx ry h => h pins s σ v u I rx ry
theorem opW_of {X : Cx} {f : Value → Value → Sem Value} {r : R2} (h : OpR X f r) {x y : V} {H : Hp} {Q : VK} (q : r x y H Q) : opW X f x y H Q := fun pins s σ v u I rx ry => h pins s σ H x y v u Q I rx ry q
def unW (X : Cx) (f : Value → Sem Value) : V → Hp → VK → Prop := fun x H Q => ∀ pins s σ v, Inv X pins σ H s → RelV x v → wpAny (model X.prog X.w) X.A (f v) (EP X pins σ Q) X.xe s
theorem unW_r {X : Cx} {f : Value → Sem Value} : UnR X f (unW X f) := fun pins s σ H x v Q I rx h => h pins s σ v I rx
theorem unW_of {X : Cx} {f : Value → Sem Value} {r : V → Hp → VK → Prop} (h : UnR X f r) {x : V} {H : Hp} {Q : VK} (q : r x H Q) : unW X f x H Q := fun pins s σ v I rx => h pins s σ H x v Q I rx q
def callW (X : Cx) (f : Value) : List V → Hp → VK → Prop := fun xs H Q => ∀ pins s σ us, Inv X pins σ H s → Vals xs us → wpAny (model X.prog X.w) X.A (call f us) (EP X pins σ Q) X.xe s
theorem callW_r {X : Cx} {f : Value} : CallR X f (callW X f) := fun pins s σ H xs us Q I r h => h pins s σ us I r
theorem callW_of {X : Cx} {f : Value} {r : List V → Hp → VK → Prop} (h : CallR X f r) {xs : List V} {H : Hp} {Q : VK} (q : r xs H Q) : callW X f xs H Q := fun pins s σ us I rx => h pins s σ H xs us Q I rx q
def ixW (X : Cx) : R2 := fun x y H Q => ∀ value slice pins s σ v u, Inv X pins σ H s → RelV x v → RelV y u → subscripted slice false v u = operate [v, u] (getItem v u) → wpAny (model X.prog X.w) X.A (subscriptTail value slice v u) (EP X pins σ Q) X.xe s
theorem ixW_r {X : Cx} : IxR X (ixW X) := fun value slice pins s σ H x y v u Q I rx ry h hs => h value slice pins s σ v u I rx ry hs
theorem ixW_of {X : Cx} {r : R2} (h : IxR X r) {x y : V} {H : Hp} {Q : VK} (q : r x y H Q) : ixW X x y H Q := fun value slice pins s σ v u I rx ry hs => h value slice pins s σ H x y v u Q I rx ry q hs

/-- what is asked of a value that comes back -/
def Val (K : PySem.W.Frag) (w : W) (S : Sto) (Q : VK) (ρ : List Addr) (B H : Hp) : Prop := ∀ ρ' B' H' v, Ext ρ B H ρ' B' H' → SR K ρ' S B' H' → Rep K B' ρ' v w → Q v H'
section
variable {K : PySem.W.Frag} {B H : Hp} {ρ : List Addr} {S : Sto} {Q : VK}
theorem Val.here {v : V} {w : W} (k : Val K w S Q ρ B H) (s : SR K ρ S B H) (r : Rep K B ρ v w) : Q v H := k _ _ _ _ Ext.refl s r
theorem Val.newL {ws : List W} {xs : List V} {p : Addr} (k : Val K (.lst ws) S Q ρ B H) (s : SR K ρ S B H) (r : RepL K B ρ xs ws) (h : H p = none) : Q (.ref p) (upd H p (.lst xs)) :=
  k _ _ _ _ (Ext.fresh s.same h) (s.fresh h) (.lst upd_same (r.mono (fun c u q => by rw [upd_ne (ne_of_none q (s.same.free h))]; exact q) ⟨[], by simp⟩))
theorem Val.newT {ws : List W} {xs : List V} {p : Addr} (k : Val K (.tup ws) S Q ρ B H) (s : SR K ρ S B H) (r : RepL K B ρ xs ws) (h : H p = none) : Q (.ref p) (upd H p (.tup xs)) :=
  k _ _ _ _ (Ext.fresh s.same h) (s.fresh h) (.tup (SqT.of upd_same) (r.mono (fun c u q => by rw [upd_ne (ne_of_none q (s.same.free h))]; exact q) ⟨[], by simp⟩))
end

/-! ### binary operators -/
def small (n : Nat) : Bool := decide (n ≤ 100000)
theorem small_line {n : Nat} (h : small n = true) : n ≤ sizeLine := Nat.le_trans (of_decide_eq_true h) (by decide)
theorem small_lt {n : Nat} (h : small (n + 1) = true) : n < sizeLine := Nat.lt_of_lt_of_le (Nat.lt_of_succ_le (of_decide_eq_true h)) (by decide)
def binop (S : Sto) : Operator → W → W → Option W
  | .Add, .int a, .int b => some (.int (a + b))
  | .Sub, .int a, .int b => some (.int (a - b))
  | .Mult, .int a, .int b => if (-(2 ^ 64) < a ∧ a < 2 ^ 64) ∨ (-(2 ^ 64) < b ∧ b < 2 ^ 64) then some (.int (a * b)) else none
  | .Mod, .int a, .int b => if 0 < b then some (.int (a % b)) else none
  | .FloorDiv, .int a, .int b => if 0 < b ∧ b < 1073741824 then some (.int (a / b)) else none
  | .Pow, .int a, .int b => if 0 ≤ b ∧ b ≤ 1000000 ∧ a.natAbs < 2 ^ 64 then some (.int (a ^ b.toNat)) else none
  | .Add, .str a, .str b => if small (a.length + b.length) then some (.str (a ++ b)) else none
  | .Add, .lst a, .lst b => if small (a.length + b.length) then some (.lst (a ++ b)) else none
  | .Add, .tup a, .tup b => if small (a.length + b.length) then some (.tup (a ++ b)) else none
  | _, _, _ => none
theorem binop_ok {X : Cx} {op : Operator} {B H : Hp} {ρ : List Addr} {S : Sto} {Q : VK} {x y : V} {a b c : W} (s : SR X.K ρ S B H) (rx : Rep X.K B ρ x a) (ry : Rep X.K B ρ y b) (e : binop S op a b = some c) (k : Val X.K c S Q ρ B H) :
    opW X (binaryOp op) x y H Q := by
  unfold binop at e
  split at e
  · cases e; cases rx; cases ry
    exact opW_of op_add ⟨_, _, rfl, rfl, k.here s (.int _)⟩
  · cases e; cases rx; cases ry
    exact opW_of op_sub ⟨_, _, rfl, rfl, k.here s (.int _)⟩
  · split at e
    · rename_i hc
      cases e; cases rx; cases ry
      exact opW_of op_mul ⟨_, _, rfl, rfl, hc, k.here s (.int _)⟩
    · cases e
  · split at e
    · rename_i hc
      cases e; cases rx; cases ry
      exact opW_of op_mod ⟨_, _, rfl, rfl, hc, k.here s (.int _)⟩
    · cases e
  · split at e
    · rename_i hc
      cases e; cases rx; cases ry
      exact opW_of op_fdiv ⟨_, _, rfl, rfl, hc, k.here s (.int _)⟩
    · cases e
  · split at e
    · rename_i hc
      cases e; cases rx; cases ry
      exact opW_of op_pow ⟨_, _, rfl, rfl, hc, k.here s (.int _)⟩
    · cases e
  · split at e
    · rename_i hc
      cases e; cases rx; cases ry
      exact opW_of op_add_str ⟨_, _, rfl, rfl, small_line hc, k.here s (.str _)⟩
    · cases e
  · split at e
    · rename_i hc
      cases e
      cases rx with
      | lst h1 r1 =>
        cases ry with
        | lst h2 r2 =>
          refine opW_of op_cat ⟨_, _, _, _, rfl, rfl, s.same _ _ h1, s.same _ _ h2, by rw [r1.length, r2.length]; exact small_line hc, fun p hp => k.newL s (r1.append r2) hp⟩
    · cases e
  · split at e
    · rename_i hc
      cases e
      cases rx with
      | tup h1 r1 =>
        cases ry with
        | tup h2 r2 =>
          refine opW_of op_catA ⟨_, _, _, _, rfl, rfl, Same.tup s.same h1, Same.tup s.same h2, by rw [r1.length, r2.length]; exact small_line hc, fun e => ?_, fun _ e => ?_, fun _ _ p hp => k.newT s (r1.append r2) hp⟩
          · subst e
            cases r1
            exact k.here s (.tup h2 r2)
          · subst e
            cases r2
            rw [List.append_nil] at k
            exact k.here s (.tup h1 r1)
    · cases e
  · cases e

/-! ### comparisons -/
def scalW : W → W → Bool
  | .non, .non => true | .non, .int _ => true | .int _, .non => true | .non, .bl _ => true | .bl _, .non => true | .non, .str _ => true | .str _, .non => true
  | .int _, .int _ => true | .bl _, .bl _ => true | .str _, .str _ => true
  | .int _, .str _ => true | .str _, .int _ => true | .bl _, .str _ => true | .str _, .bl _ => true
  | _, _ => false
/-- x == y -/
def eqS (S : Sto) (x y : W) : Option Bool :=
  if scalW x y = true then some (eqW x y)
  else match datS S x, datS S y with
    | some d, some e => if SeqAt.shaped d = true ∧ SeqAt.shaped e = true then some (PyData.eqv d e) else none
    | _, _ => none
theorem scal_ok {K : PySem.W.Frag} {B : Hp} {ρ : List Addr} {x y : V} {a b : W} (rx : Rep K B ρ x a) (ry : Rep K B ρ y b) (h : scalW a b = true) : scal x y = true ∧ decide (x = y) = eqW a b := by
  cases rx <;> cases ry <;> first
    | (cases h; done)
    | (refine ⟨rfl, ?_⟩; first | exact dec_int | exact dec_bl | exact dec_str | exact decide_eq_false (fun z => nomatch z) | exact decide_eq_true rfl)
def signOf (s : Str) : Option Nat := match s.cps.toList with
  | [c] => some c
  | _ => none
theorem signOf_eq {s : Str} {c : Nat} (h : signOf s = some c) : s = ⟨#[c]⟩ := by
  unfold signOf at h
  split at h
  · rename_i d e
    cases h
    obtain ⟨cs⟩ := s
    have e' : cs.toList = [c] := e
    have : cs = #[c] := by
      apply Array.ext'
      rw [e']
    rw [this]
  · cases h
def inS (S : Sto) (x y : W) : Option Bool := match x, y with
  | .str a, .str z => (match signOf a with
    | some c => some (decide (c ∈ z.cps.toList))
    | none => some (!(Builtin.Str.occurrences z a 0 z.length 1).isEmpty))
  | _, _ => (match (seqL S y).orElse (fun _ => seqT y) with
    | some ws => if flatW x = true ∧ ws.all flatW = true then some (inW x ws) else (match datS S x, datS S y with
      | some d, some (.list ds) => if SeqAt.shaped d = true ∧ SeqAt.shaped (.list ds) = true then some (ds.any fun z => PyData.eqv z d) else none
      | _, _ => none)
    | none => none)
def isNonW : W → Bool
  | .non => true
  | _ => false
def cmpop (S : Sto) : CmpOp → W → W → Option Bool
  | .Eq, x, y => eqS S x y
  | .NotEq, x, y => (eqS S x y).map (!·)
  | .In, x, y => inS S x y
  | .NotIn, x, y => (inS S x y).map (!·)
  | .Lt, .int a, .int b => some (decide (a < b))
  | .LtE, .int a, .int b => some (decide (a ≤ b))
  | .Gt, .int a, .int b => some (decide (b < a))
  | .GtE, .int a, .int b => some (decide (b ≤ a))
  | .Lt, .str a, .str b => some (decide (a.cps.toList < b.cps.toList))
  | .Is, x, .non => some (isNonW x)
  | .IsNot, x, .non => some (!isNonW x)
  | _, _, _ => none
theorem isNon_ok {K : PySem.W.Frag} {B : Hp} {ρ : List Addr} {x : V} {a : W} (rx : Rep K B ρ x a) : decide (x = .non) = isNonW a := by
  cases rx <;> first | exact decide_eq_true rfl | exact decide_eq_false (fun z => nomatch z)
theorem eqS_ok {X : Cx} {B H : Hp} {ρ : List Addr} {S : Sto} {Q : VK} {x y : V} {a b : W} {c : Bool} (hu : X.A.units + 65 < cLine) (s : SR X.K ρ S B H) (rx : Rep X.K B ρ x a) (ry : Rep X.K B ρ y b) (e : eqS S a b = some c) :
    (Val X.K (.bl c) S Q ρ B H → opW X (compareOp .Eq) x y H Q) ∧ (Val X.K (.bl (!c)) S Q ρ B H → opW X (compareOp .NotEq) x y H Q) := by
  unfold eqS at e
  split at e
  · rename_i hs
    cases e
    obtain ⟨h1, h2⟩ := scal_ok rx ry hs
    exact ⟨fun k => opW_of op_eq ⟨h1, by rw [h2]; exact k.here s (.bl _)⟩, fun k => opW_of op_ne ⟨h1, by rw [h2]; exact k.here s (.bl _)⟩⟩
  · split at e
    · rename_i d1 d2 q1 q2
      split at e
      · rename_i hs
        cases e
        exact ⟨fun k => opW_of (op_eqD (by omega)) ⟨d1, d2, datS_ok s rx q1, datS_ok s ry q2, hs.1, hs.2, k.here s (.bl _)⟩, fun k => opW_of (op_neD (by omega)) ⟨d1, d2, datS_ok s rx q1, datS_ok s ry q2, hs.1, hs.2, k.here s (.bl _)⟩⟩
      · cases e
    · cases e
theorem inS_ok {X : Cx} {B H : Hp} {ρ : List Addr} {S : Sto} {Q : VK} {x y : V} {a b : W} {c : Bool} (hu : X.A.units + 65 < cLine) (s : SR X.K ρ S B H) (rx : Rep X.K B ρ x a) (ry : Rep X.K B ρ y b) (e : inS S a b = some c) :
    (Val X.K (.bl c) S Q ρ B H → opW X (compareOp .In) x y H Q) ∧ (Val X.K (.bl (!c)) S Q ρ B H → opW X (compareOp .NotIn) x y H Q) := by
  unfold inS at e
  split at e
  · rename_i sa sz
    cases rx; cases ry
    split at e
    · rename_i cc hc
      cases e
      have q := signOf_eq hc
      subst q
      exact ⟨fun k => opW_of op_in_sign ⟨cc, sz, rfl, rfl, k.here s (.bl _)⟩, fun k => opW_of op_notIn_sign ⟨cc, sz, rfl, rfl, k.here s (.bl _)⟩⟩
    · cases e
      exact ⟨fun k => opW_of op_in_str ⟨_, _, rfl, rfl, k.here s (.bl _)⟩, fun k => opW_of op_notIn_str ⟨_, _, rfl, rfl, k.here s (.bl _)⟩⟩
  · split at e
    · rename_i ws hw
      have hseq : ∃ p xs, y = .ref p ∧ (SqL X.K H p xs ∨ SqT X.K H p xs) ∧ RepL X.K B ρ xs ws := by
        cases q : seqL S b with
        | some ws' =>
          rw [q] at hw
          cases hw
          obtain ⟨p, xs, e1, e2, e3⟩ := seqL_ok s ry q
          exact ⟨p, xs, e1, .inl e2, e3⟩
        | none =>
          rw [q] at hw
          obtain ⟨p, xs, e1, e2, e3⟩ := seqT_ok s ry (show seqT b = some ws from hw)
          exact ⟨p, xs, e1, .inr e2, e3⟩
      obtain ⟨p, xs, ey, hq, rr⟩ := hseq
      split at e
      · rename_i hf
        cases e
        have fx := rx.flat hf.1
        have fl := rr.flat hf.2
        have hv := inW_V rx hf.1 rr hf.2
        refine ⟨fun k => opW_of op_in_seq ⟨p, xs, ey, hq, fx.1, fl, ?_⟩, fun k => opW_of op_notIn_seq ⟨p, xs, ey, hq, fx.1, fl, ?_⟩⟩
        · rw [hv]
          exact k.here s (.bl _)
        · rw [hv]
          exact k.here s (.bl _)
      · split at e
        · rename_i d ds q1 q2
          split at e
          · rename_i hs
            cases e
            exact ⟨fun k => opW_of (op_inD hu) ⟨d, ds, datS_ok s rx q1, datS_ok s ry q2, hs.1, hs.2, k.here s (.bl _)⟩, fun k => opW_of (op_notInD hu) ⟨d, ds, datS_ok s rx q1, datS_ok s ry q2, hs.1, hs.2, k.here s (.bl _)⟩⟩
          · cases e
        · cases e
    · cases e
theorem cmpop_ok {X : Cx} {op : CmpOp} {B H : Hp} {ρ : List Addr} {S : Sto} {Q : VK} {x y : V} {a b : W} {c : Bool} (hu : X.A.units + 65 < cLine) (s : SR X.K ρ S B H) (rx : Rep X.K B ρ x a) (ry : Rep X.K B ρ y b) (e : cmpop S op a b = some c)
    (k : Val X.K (.bl c) S Q ρ B H) : opW X (compareOp op) x y H Q := by
  unfold cmpop at e
  split at e
  · exact (eqS_ok hu s rx ry e).1 k
  · cases q : eqS S a b with
    | none => rw [q] at e; cases e
    | some d => rw [q] at e; cases e; exact (eqS_ok hu s rx ry q).2 k
  · exact (inS_ok hu s rx ry e).1 k
  · cases q : inS S a b with
    | none => rw [q] at e; cases e
    | some d => rw [q] at e; cases e; exact (inS_ok hu s rx ry q).2 k
  · cases e; cases rx; cases ry
    exact opW_of op_lt ⟨_, _, rfl, rfl, k.here s (.bl _)⟩
  · cases e; cases rx; cases ry
    exact opW_of op_le ⟨_, _, rfl, rfl, k.here s (.bl _)⟩
  · cases e; cases rx; cases ry
    exact opW_of op_gt ⟨_, _, rfl, rfl, k.here s (.bl _)⟩
  · cases e; cases rx; cases ry
    exact opW_of op_ge ⟨_, _, rfl, rfl, k.here s (.bl _)⟩
  · cases e; cases rx; cases ry
    exact opW_of op_lt_str ⟨_, _, rfl, rfl, k.here s (.bl _)⟩
  · cases e; cases ry
    exact opW_of op_isN ⟨rfl, by rw [isNon_ok rx]; exact k.here s (.bl _)⟩
  · cases e; cases ry
    exact opW_of op_notN ⟨rfl, by rw [isNon_ok rx]; exact k.here s (.bl _)⟩
  · cases e
end Mi

set_option Elab.async false
set_option linter.all false
set_option maxRecDepth 100000
set_option maxHeartbeats 4000000
/-! Mi3: the evaluator. -/
namespace Mi
open PySem PySem.Spec PyProof.Rows L2

/-! ### what is known of a program, of a def -/
/-- cst: names of the module that hold plain values; ar: own defs, how many arguments; free: names that the module does not hold -/
structure Pg where
  cst : Str → Option W
  ar : Str → Option Nat
  free : List Str
/-- N: names by slot; sc: the scope; fn: names whose cells are this frame's own; mut: names whose displays are cells -/
structure Gm where
  N : List Str
  sc : Scope
  fn : Str → Bool
  muts : List Str
inductive Out' where
  | next (env : Env')
  | ret (w : W)
  | brk (env : Env')
  | cont (env : Env')
structure Evs where
  e : Gm → Env' → Sto → Expr → R W
  t : Gm → Env' → Sto → Expr → R Bool
  s : Gm → Env' → Sto → Stmt → R Out'

def slotOf : List Str → Str → Option Nat
  | [], _ => none
  | y :: r, x => if x = y then some 0 else (slotOf r x).map Nat.succ
theorem slotOf_get : ∀ {N : List Str} {x : Str} {i : Nat}, slotOf N x = some i → N[i]? = some x
  | [], _, _, h => by cases h
  | y :: r, x, i, h => by
    unfold slotOf at h
    split at h
    · rename_i e
      cases h
      rw [e]
      rfl
    · cases q : slotOf r x with
      | none => rw [q] at h; cases h
      | some j =>
        rw [q] at h
        cases h
        exact (slotOf_get q : r[j]? = some x)
def visB (sc : Scope) (x : Str) : Bool := match sc.names.lookup x with
  | some .local => true
  | some .cell => true
  | some .free => true
  | _ => false
def gloB (sc : Scope) (x : Str) : Bool := match sc.names.lookup x with
  | some .globalImplicit => true
  | _ => false
def locB (g : Gm) (x : Str) : Bool := match g.sc.names.lookup x with
  | some .local => true
  | some .cell => g.fn x
  | _ => false
def odd (x : Str) : Bool := (x == ("__debug__" : Str)) || (x == ("__classdict__" : Str)) || (x == ("__name__" : Str))

def nameE (pg : Pg) (g : Gm) (env : Env') (S : Sto) (x : Str) : R W :=
  guard' (!odd x) (if visB g.sc x = true then (match slotOf g.N x with
    | some i => (match env[i]? with
      | some (some w) => .ok w S
      | _ => .bad)
    | none => .bad)
  else guard' (gloB g.sc x) (lift (pg.cst x) S))

/-! ### built-in calls -/
def bools : List W → Option (List Bool)
  | [] => some []
  | .bl b :: r => (bools r).map (b :: ·)
  | _ => none
def lenW (S : Sto) (w : W) : Option Int := match w with
  | .str z => if small z.length then some (z.length : Int) else none
  | w => (match seqL S w with
    | some ws => some (ws.length : Int)
    | none => (seqT w).map fun ws => (ws.length : Int))
def bcall (S : Sto) (f : Str) (ws : List W) : Option W :=
  if f = "len" then (match ws with
    | [w] => (lenW S w).map .int
    | _ => none)
  else if f = "int" then (match ws with
    | [.int i] => some (.int i)
    | [.str a] => if a.length ≤ 640 then (PySem.intText? a).map .int else none
    | _ => none)
  else if f = "str" then (match ws with
    | [.int i] => if i.natAbs.log2 < 1920 then some (.str (toString i)) else none
    | _ => none)
  else if f = "all" then (match ws with
    | [w] => (match seqL S w with
      | some xs => (bools xs).map fun bs => .bl (bs.all id)
      | none => none)
    | _ => none)
  else if f = "any" then (match ws with
    | [w] => (match seqL S w with
      | some xs => (bools xs).map fun bs => .bl (bs.any id)
      | none => none)
    | _ => none)
  else if f = "min" then (match ws with
    | [.int i, .int j] => some (.int (if j < i then j else i))
    | _ => none)
  else if f = "max" then (match ws with
    | [.int i, .int j] => some (.int (if j > i then j else i))
    | _ => none)
  else if f = "list" then (match ws with
    | [w] => (match seqL S w with
      | some xs => some (.lst xs)
      | none => (seqT w).map .lst)
    | _ => none)
  else if f = "tuple" then (match ws with
    | [w] => (match seqL S w with
      | some xs => some (.tup xs)
      | none => (seqT w).map .tup)
    | _ => none)
  else none

def known (f : Str) : Bool := decide (f = "len") || decide (f = "int") || decide (f = "str") || decide (f = "all") || decide (f = "any") || decide (f = "min") || decide (f = "max") || decide (f = "list") || decide (f = "tuple")

/-! ### subscripts -/
def ixS (S : Sto) (x i : W) : Option W := match i with
  | .int k => (match x with
    | .str z => if small z.length then (atI z.cps.toList k).map fun c => .str ⟨#[c]⟩ else none
    | x => (match seqL S x with
      | some ws => atI ws k
      | none => (match seqT x with
        | some ws => atI ws k
        | none => none)))
  | _ => none
def cutW (ws : List W) (lo hi : Option Int) : List W := (ws.drop (HT.sIx ws.length 0 lo)).take (HT.sIx ws.length ws.length hi - HT.sIx ws.length 0 lo)
def slS (S : Sto) (x : W) (lo hi : Option Int) : Option W := match x with
  | .str z => if small z.length then some (.str (cutS z lo hi)) else none
  | x => (match seqL S x with
    | some ws => some (.lst (cutW ws lo hi))
    | none => (seqT x).map fun ws => .tup (cutW ws lo hi))
def plainIx : Expr → Bool
  | .Slice .. => false
  | _ => true

/-! ### truth -/
def truth (S : Sto) : W → Option Bool
  | .non => some false
  | .bl b => some b
  | .int i => some (i != 0)
  | .str z => if small z.length then some ((z.length : Int) != 0) else none
  | w => (match seqL S w with
    | some ws => some (!ws.isEmpty)
    | none => (seqT w).map fun ws => !ws.isEmpty)

/-! ### rows of parts -/
def notStar : Expr → Bool
  | .Starred .. => false
  | _ => true
def mapR0 (f : Expr → Sto → R W) : List Expr → Sto → R (List W)
  | [], S => .ok [] S
  | e :: es, S => (f e S).bind fun w S1 => (mapR0 f es S1).bind fun ws S2 => .ok (w :: ws) S2
def mapR (f : Expr → Sto → R W) (es : List Expr) (S : Sto) : R (List W) := guard' (es.all notStar) (mapR0 f es S)
def allR (f : Expr → Sto → R Bool) (op : BoolOp) : List Expr → Sto → R Bool
  | [], _ => .bad
  | [a], S => f a S
  | a :: b :: r, S => (f a S).bind fun c S1 => (match op, c with
    | .And, true => allR f op (b :: r) S1
    | .And, false => .ok false S1
    | .Or, true => .ok true S1
    | .Or, false => allR f op (b :: r) S1)
def valR (f : Expr → Sto → R W) (op : BoolOp) : List Expr → Sto → R W
  | [], _ => .bad
  | [a], S => f a S
  | a :: b :: r, S => (f a S).bind fun w S1 => (match w with
    | .bl c => (match op, c with
      | .And, true => valR f op (b :: r) S1
      | .And, false => .ok (.bl false) S1
      | .Or, true => .ok (.bl true) S1
      | .Or, false => valR f op (b :: r) S1)
    | _ => .bad)
def seqR (f : Env' → Sto → Stmt → R Out') : List Stmt → Env' → Sto → R Out'
  | [], env, S => .ok (.next env) S
  | s :: r, env, S => (f env S s).bind fun o S1 => (match o with
    | .next env1 => seqR f r env1 S1
    | .ret w => .ok (.ret w) S1
    | .brk e => .ok (.brk e) S1
    | .cont e => .ok (.cont e) S1)

/-! ### targets -/
def bindN (g : Gm) (x : Str) (w : W) (env : Env') : Option Env' := if locB g x = true then (slotOf g.N x).map fun i => env.set i (some w) else none
def bindIx : List Nat → List W → Env' → Option Env'
  | [], [], env => some env
  | i :: r, w :: ws, env => bindIx r ws (env.set i (some w))
  | _, _, _ => none
def bindTs (ix : List Nat) (w : W) (env : Env') : Option Env' := match seqT w with
  | some ws => bindIx ix ws env
  | none => none
def nameIx (g : Gm) : Expr → Option Nat
  | .Name x _ => if locB g x = true then slotOf g.N x else none
  | _ => none
def namesIx (g : Gm) : List Expr → Option (List Nat)
  | [] => some []
  | e :: r => match nameIx g e, namesIx g r with
    | some i, some is => some (i :: is)
    | _, _ => none
def bindT (g : Gm) (tg : Expr) (w : W) (env : Env') : Option Env' := match tg with
  | .Name x _ => bindN g x w env
  | .Tuple es _ _ => (match namesIx g es with
    | some ix => bindTs ix w env
    | none => none)
  | _ => none
def nameOk (g : Gm) : Expr → Bool
  | .Name x _ => locB g x && (slotOf g.N x).isSome
  | _ => false
def tgOk (g : Gm) : Expr → Bool
  | .Name x p => nameOk g (.Name x p)
  | .Tuple es _ _ => es.all (nameOk g)
  | _ => false
/-- nothing may leave from here -/
def noExc {α : Type} (r : R α) : R α := match r with
  | .ok a S => .ok a S
  | _ => .bad

/-! ### loops -/
def forR (body : Env' → Sto → R Out') (bnd : W → Env' → Option Env') : List W → Env' → Sto → R Out'
  | [], env, S => .ok (.next env) S
  | w :: ws, env, S => (match bnd w env with
    | none => .bad
    | some env1 => (body env1 S).bind fun o S1 => (match o with
      | .next env2 => forR body bnd ws env2 S1
      | .cont env2 => forR body bnd ws env2 S1
      | .brk env2 => .ok (.next env2) S1
      | .ret v => .ok (.ret v) S1))
def whileR (test : Env' → Sto → R Bool) (body : Env' → Sto → R Out') : Nat → Env' → Sto → R Out'
  | 0, _, _ => .bad
  | m + 1, env, S => (test env S).bind fun c S1 => (match c with
    | false => .ok (.next env) S1
    | true => (body env S1).bind fun o S2 => (match o with
      | .next env2 => whileR test body m env2 S2
      | .cont env2 => whileR test body m env2 S2
      | .brk env2 => .ok (.next env2) S2
      | .ret v => .ok (.ret v) S2))
def strW (z : Str) : List W := z.cps.toList.map fun c => .str ⟨#[c]⟩
def enumW (n : Nat) : List W → List W
  | [] => []
  | w :: ws => .tup [.int (n : Int), w] :: enumW (n + 1) ws
def isName (e : Expr) (x : Str) : Bool := match e with
  | .Name y _ => decide (y = x)
  | _ => false
def notSet : Expr → Bool
  | .Set .. => false
  | _ => true
/-- the items of what a for walks -/
def evIter (pg : Pg) (g : Gm) (f : Expr → Sto → R W) (iter : Expr) (S : Sto) : R (List W) := match iter with
  | .Call (.Name "range" _) [a] [] _ => guard' (gloB g.sc "range" && pg.free.contains "range") ((mapR f [a] S).bind fun ws S1 => (match ws with
    | [.int n] => guard' (decide (-(2 ^ 62) ≤ n ∧ n < 2 ^ 62)) (.ok ((List.range n.toNat).map fun i : Nat => W.int ((0 : Int) + (i : Int))) S1)
    | _ => .bad))
  | .Call (.Name "range" _) [a, b] [] _ => guard' (gloB g.sc "range" && pg.free.contains "range") ((mapR f [a, b] S).bind fun ws S1 => (match ws with
    | [.int m, .int n] => guard' (decide (-(2 ^ 62) ≤ m ∧ m < 2 ^ 62 ∧ -(2 ^ 62) ≤ n ∧ n < 2 ^ 62)) (.ok ((List.range (n - m).toNat).map fun i : Nat => W.int (m + (i : Int))) S1)
    | _ => .bad))
  | e => guard' (notSet e) ((f e S).bind fun w S1 => (match w with
    | .lst ws => .ok ws S1
    | .frl ws => .ok ws S1
    | .tup ws => .ok ws S1
    | .str z => .ok (strW z) S1
    | _ => .bad))
def lcR (step : W → Sto → R (Option W)) : List W → List W → Sto → R W
  | [], acc, S => .ok (.lst acc) S
  | w :: ws, acc, S => (step w S).bind fun o S1 => (match o with
    | none => lcR step ws acc S1
    | some y => guard' (small (acc.length + 1)) (lcR step ws (acc ++ [y]) S1))
/-- the names of a target -/
def tgNames : Expr → List Str
  | .Name x _ => [x]
  | .Tuple es _ _ => es.filterMap fun | .Name x _ => some x | _ => none
  | _ => []
def ownOf (N : List Str) (tg : Expr) : List (Str × Nat) := (tgNames tg).filterMap fun x => (slotOf N x).map fun i => (x, i)
def blkG (g : Gm) (scope : Scope) : Gm := { g with sc := relS scope g.sc, fn := fun x => scope.names.lookup x == some .cell }
def wipeE (env : Env') : List Nat → Env'
  | [] => env
  | v :: vs => (wipeE env vs).set v none

/-! ### one step deeper -/
def stepE (pg : Pg) (cl : Str → List W → Sto → R W) (E : Evs) (g : Gm) (env : Env') (S : Sto) (e : Expr) : R W := match e with
  | .Name x _ => nameE pg g env S x
  | .Constant c _ _ => (match c with
    | .int i => .ok (.int i) S
    | .bool b => .ok (.bl b) S
    | .none => .ok .non S
    | .str s => .ok (.str s) S
    | _ => .bad)
  | .Tuple es _ _ => (mapR (fun e S => E.e g env S e) es S).bind fun ws S1 => guard' (small ws.length) (.ok (.tup ws) S1)
  | .List es _ => (mapR (fun e S => E.e g env S e) es S).bind fun ws S1 => guard' (small ws.length) (.ok (.lst ws) S1)
  | .BinOp a op b _ => (E.e g env S a).bind fun x S1 => (E.e g env S1 b).bind fun y S2 => lift (binop S2 op x y) S2
  | .UnaryOp .Not a _ => (E.e g env S a).bind fun x S1 => (match x with
    | .bl b => .ok (.bl (!b)) S1
    | _ => .bad)
  | .UnaryOp .USub a _ => (E.e g env S a).bind fun x S1 => (match x with
    | .int i => .ok (.int (-i)) S1
    | _ => .bad)
  | .BoolOp op es _ => valR (fun e S => E.e g env S e) op es S
  | .Compare a [op] [b] _ => guard' (!behindInMarks op b) ((E.e g env S a).bind fun x S1 => (E.e g env S1 b).bind fun y S2 => (lift (cmpop S2 op x y) S2).bind fun c S3 => .ok (.bl c) S3)
  | .Compare a [op, op'] [b, c] _ => guard' (!lastMarks [op, op'] [b, c]) ((E.e g env S a).bind fun x S1 => (E.e g env S1 b).bind fun y S2 => (lift (cmpop S2 op x y) S2).bind fun d S3 => (match d with
    | false => .ok (.bl false) S3
    | true => (E.e g env S3 c).bind fun z S4 => (lift (cmpop S4 op' y z) S4).bind fun d' S5 => .ok (.bl d') S5))
  | .IfExp t a b _ => (E.t g env S t).bind fun c S1 => (match c with
    | true => E.e g env S1 a
    | false => E.e g env S1 b)
  | .Subscript a (.Slice lo hi none _) _ => (E.e g env S a).bind fun x S1 => (partR E g env S1 lo).bind fun l S2 => (partR E g env S2 hi).bind fun h S3 => lift (slS S3 x l h) S3
  | .Subscript a i _ => guard' (plainIx i) ((E.e g env S a).bind fun x S1 => (E.e g env S1 i).bind fun y S2 => lift (ixS S2 x y) S2)
  | .ListComp elt [⟨tg, iter, ifs, 0⟩] scope _ => guard' (notSet iter && blkC g.N g.sc scope (ownOf g.N tg) && tgOk (blkG g scope) tg && decide (ifs.length ≤ 1)) ((evIter pg g (fun e S => E.e g env S e) iter S).bind fun items S1 =>
      lcR (fun w S => (match bindT (blkG g scope) tg w (wipeE env ((ownOf g.N tg).map (·.2))) with
        | none => .bad
        | some env1 => (match ifs with
          | [] => (noExc (E.e (blkG g scope) env1 S elt)).bind fun y S2 => .ok (some y) S2
          | [c] => (noExc (E.t (blkG g scope) env1 S c)).bind fun b S2 => (match b with
            | true => (noExc (E.e (blkG g scope) env1 S2 elt)).bind fun y S3 => .ok (some y) S3
            | false => .ok none S2)
          | _ => .bad))) items [] S1)
  | .Call (.Name f _) (a :: as) [] _ => guard' (gloB g.sc f && !odd f && ((pg.ar f).isSome || (known f && pg.free.contains f))) ((mapR (fun e S => E.e g env S e) (a :: as) S).bind fun ws S1 => (match pg.ar f with
    | some n => guard' (decide (ws.length = n)) (match cl f ws S1 with
      | .ok w S2 => .ok w S2
      | .exc c fs _ S2 => .exc c fs env S2
      | .bad => .bad)
    | none => lift (bcall S1 f ws) S1))
  | _ => .bad
where
  partR (E : Evs) (g : Gm) (env : Env') (S : Sto) (o : Option Expr) : R (Option Int) := match o with
    | none => .ok none S
    | some e => (E.e g env S e).bind fun w S1 => (match w with
      | .int i => .ok (some i) S1
      | _ => .bad)
def plainT : Expr → Bool
  | .BoolOp .. => false
  | .IfExp .. => false
  | .Compare .. => false
  | .UnaryOp .Not _ _ => false
  | _ => true
def stepT (E : Evs) (g : Gm) (env : Env') (S : Sto) (e : Expr) : R Bool := match e with
  | .UnaryOp .Not a _ => (E.t g env S a).bind fun b S1 => .ok (!b) S1
  | .BoolOp op es _ => allR (fun e S => E.t g env S e) op es S
  | .Compare a [op] [b] _ => guard' (!behindInMarks op b) ((E.e g env S a).bind fun x S1 => (E.e g env S1 b).bind fun y S2 => lift (cmpop S2 op x y) S2)
  | .Compare a [op, op'] [b, c] _ => guard' (!lastMarks [op, op'] [b, c]) ((E.e g env S a).bind fun x S1 => (E.e g env S1 b).bind fun y S2 => (lift (cmpop S2 op x y) S2).bind fun d S3 => (match d with
    | false => .ok false S3
    | true => (E.e g env S3 c).bind fun z S4 => lift (cmpop S4 op' y z) S4))
  | e => guard' (plainT e) ((E.e g env S e).bind fun w S1 => lift (truth S1 w) S1)
def isComp : Expr → Bool
  | .ListComp .. => true
  | .SetComp .. => true
  | .DictComp .. => true
  | _ => false
def isTup : Expr → Bool
  | .Tuple .. => true
  | _ => false
def nextN (g : Gm) (x : Str) (w : W) (env : Env') (S : Sto) : R Out' := match bindN g x w env with
  | some env1 => .ok (.next env1) S
  | none => .bad
def stepS (pg : Pg) (cl : Str → List W → Sto → R W) (E : Evs) (g : Gm) (env : Env') (S : Sto) (st : Stmt) : R Out' := match st with
  | .Return (some e) _ => (E.e g env S e).bind fun w S1 => .ok (.ret w) S1
  | .Return none _ => .ok (.ret .non) S
  | .Pass _ => .ok (.next env) S
  | .Break _ => .ok (.brk env) S
  | .Continue _ => .ok (.cont env) S
  | .Expr e _ => guard' (!isComp e) ((E.e g env S e).bind fun _ S1 => .ok (.next env) S1)
  | .If c a b _ => (E.t g env S c).bind fun d S1 => (match d with
    | true => seqR (fun env S s => E.s g env S s) a env S1
    | false => seqR (fun env S s => E.s g env S s) b env S1)
  | .Assign [.Name x p] e _ => guard' (nameOk g (.Name x p)) (match e with
    | .List es q => (match g.muts.contains x with
      | true => (mapR (fun e S => E.e g env S e) es S).bind fun ws S1 => guard' (small ws.length) (match bindN g x (.ref S1.length) env with
        | some env1 => .ok (.next env1) (S1 ++ [SO.lst ws])
        | none => .bad)
      | false => (E.e g env S (.List es q)).bind fun w S1 => nextN g x w env S1)
    | .ListComp elt [⟨tg, iter, ifs, 0⟩] sc q => (stepE pg cl E g env S (.ListComp elt [⟨tg, iter, ifs, 0⟩] sc q)).bind fun w S1 => nextN g x w env S1
    | e => guard' (!isComp e) ((E.e g env S e).bind fun w S1 => nextN g x w env S1))
  | .Assign [.Tuple es k p] e _ => guard' (!isTup e && !isComp e && tgOk g (.Tuple es k p)) ((E.e g env S e).bind fun w S1 => (match bindT g (.Tuple es k p) w env with
    | some env1 => .ok (.next env1) S1
    | none => .bad))
  | .AugAssign (.Name x p) .Add e _ => guard' (nameOk g (.Name x p)) (match env[(slotOf g.N x).getD 0]? with
    | some (some (.int a)) => (E.e g env S e).bind fun w S1 => (match w with
      | .int b => nextN g x (.int (a + b)) env S1
      | _ => .bad)
    | _ => .bad)
  | .AugAssign (.Subscript o i _) .Add e _ => guard' (plainIx i) ((E.e g env S o).bind fun x S1 => (E.e g env S1 i).bind fun y S2 => (match x, y with
    | .ref n, .int k => (match S2[n]? with
      | some (.lst ws) => (match decide (0 ≤ k ∧ k < 2 ^ 62), ws[k.toNat]? with
        | true, some (.int a) => (E.e g env S2 e).bind fun w S3 => (match w, S3[n]? with
          | .int b, some (.lst ws') => guard' (decide (k.toNat < ws'.length)) (.ok (.next env) (S3.set n (SO.lst (ws'.set k.toNat (.int (a + b))))))
          | _, _ => .bad)
        | _, _ => .bad)
      | none => .bad)
    | _, _ => .bad))
  | .For tg iter body [] _ => guard' (notSet iter && tgOk g tg) ((evIter pg g (fun e S => E.e g env S e) iter S).bind fun items S1 => forR (fun env S => seqR (fun env S s => E.s g env S s) body env S) (bindT g tg) items env S1)
  | .While c body [] _ => whileR (fun env S => E.t g env S c) (fun env S => seqR (fun env S s => E.s g env S s) body env S) 100000 env S
  | _ => .bad
def ev (pg : Pg) (cl : Str → List W → Sto → R W) : Nat → Evs
  | 0 => ⟨fun _ _ _ _ => .bad, fun _ _ _ _ => .bad, fun _ _ _ _ => .bad⟩
  | n + 1 => ⟨stepE pg cl (ev pg cl n), stepT (ev pg cl n), stepS pg cl (ev pg cl n)⟩
end Mi

set_option Elab.async false
set_option linter.all false
set_option maxRecDepth 100000
set_option maxHeartbeats 4000000
/-! Mi4: what the evaluator says is what happens: words, parts. -/
namespace Mi
open PySem PySem.Spec PyProof.Rows L2

/-! ### weakest words -/
section
variable {X : Cx} {e : Expr} {es : List Expr} {st : Stmt} {sts : List Stmt} {σ : L2.St} {H : Hp}
def wE (X : Cx) (e : Expr) : TE := fun σ H Q => ∀ pins s, Inv X pins σ H s → wpAny (model X.prog X.w) X.A (eval e X.env) (EP X pins σ Q) X.xe s
theorem pwE : PE X e (wE X e) := ⟨fun pins s _ _ _ I h => h pins s I⟩
theorem wE_of {t : TE} (h : PE X e t) {Q : VK} (q : t σ H Q) : wE X e σ H Q := fun pins s I => h.run pins s σ H Q I q
def wT (X : Cx) (e : Expr) : TT := fun σ H Q => ∀ pins s, Inv X pins σ H s → wpAny (model X.prog X.w) X.A (isTrue e X.env (eval e X.env)) (TP X pins σ Q) X.xe s
theorem pwT : PT X e (wT X e) := ⟨fun pins s _ _ _ I h => h pins s I⟩
theorem wT_of {t : TT} (h : PT X e t) {Q : Bool → Hp → Prop} (q : t σ H Q) : wT X e σ H Q := fun pins s I => h.run pins s σ H Q I q
def wW (X : Cx) (e : Expr) : TT := fun σ H Q => ∀ whole pins s, Inv X pins σ H s → wpAny (model X.prog X.w) X.A (isTrue e X.env whole) (TP X pins σ Q) X.xe s
theorem pwW : PW X e (wW X e) := ⟨fun wh pins s _ _ _ I h => h wh pins s I⟩
theorem wW_of {t : TT} (h : PW X e t) {Q : Bool → Hp → Prop} (q : t σ H Q) : wW X e σ H Q := fun wh pins s I => h.run wh pins s σ H Q I q
def wA (X : Cx) (es : List Expr) : TA := fun σ H Q => ∀ pos pins s, Inv X pins σ H s → wpAny (model X.prog X.w) X.A (spliced (backTo pos (starEach es X.env))) (AP X pins σ Q) X.xe s
theorem pwA : PA X es (wA X es) := ⟨fun pos pins s _ _ _ I h => h pos pins s I⟩
theorem wA_of {t : TA} (h : PA X es t) {Q : List V → Hp → Prop} (q : t σ H Q) : wA X es σ H Q := fun pos pins s I => h.run pos pins s σ H Q I q
theorem wA_mono {P P' : List V → Hp → Prop} (h : wA X es σ H P) (f : ∀ vs H, P vs H → P' vs H) : wA X es σ H P' := fun pos pins s I => thn (h pos pins s I) fun us s' ⟨vs, H', I', r, q⟩ => ⟨vs, H', I', r, f _ _ q⟩
def wS (X : Cx) (st : Stmt) : TS := fun D σ H => ∀ pins s, Inv X pins σ H s → wpAny (model X.prog X.w) X.A (exec st X.env) (SP X pins D) X.xe s
theorem pwS : PS X st (wS X st) := ⟨fun pins s _ _ _ I h => h pins s I⟩
theorem wS_of {t : TS} (h : PS X st t) {D : Ends} (q : t D σ H) : wS X st D σ H := fun pins s I => h.run pins s σ H D I q
def wSs (X : Cx) (sts : List Stmt) : TS := fun D σ H => ∀ pins s, Inv X pins σ H s → wpAny (model X.prog X.w) X.A (execs sts X.env) (SP X pins D) X.xe s
theorem pwSs : PSs X sts (wSs X sts) := ⟨fun pins s _ _ _ I h => h pins s I⟩
theorem wSs_of {t : TS} (h : PSs X sts t) {D : Ends} (q : t D σ H) : wSs X sts D σ H := fun pins s I => h.run pins s σ H D I q
end

/-! ### slots -/
structure Sl (K : PySem.W.Frag) (B : Hp) (ρ : List Addr) (σ : L2.St) (env : Env') : Prop where
  len : σ.length = env.length
  at_ : ∀ (i : Nat) (w : W), env[i]? = some (some w) → ∃ v, σ[i]? = some (some v) ∧ Rep K B ρ v w
theorem Sl.mono {K : PySem.W.Frag} {B B' H H' : Hp} {ρ ρ' : List Addr} {σ : L2.St} {env : Env'} (s : Sl K B ρ σ env) (e : Ext ρ B H ρ' B' H') : Sl K B' ρ' σ env :=
  ⟨s.len, fun i w h => by
    obtain ⟨v, h1, h2⟩ := s.at_ i w h
    exact ⟨v, h1, h2.mono e.b e.pre⟩⟩
theorem Sl.set {K : PySem.W.Frag} {B : Hp} {ρ : List Addr} {σ : L2.St} {env : Env'} (s : Sl K B ρ σ env) {v : V} {w : W} (r : Rep K B ρ v w) (i : Nat) : Sl K B ρ (σ.set i (some v)) (env.set i (some w)) := by
  refine ⟨by simp [s.len], fun j x h => ?_⟩
  by_cases hj : i = j
  · subst hj
    by_cases hi : i < env.length
    · rw [List.getElem?_set_self hi] at h
      cases h
      exact ⟨v, by rw [List.getElem?_set_self (by rw [s.len]; exact hi)], r⟩
    · rw [List.getElem?_eq_none (by simp; omega)] at h
      cases h
  · rw [List.getElem?_set_ne hj] at h
    rw [List.getElem?_set_ne hj]
    exact s.at_ j x h
theorem Sl.wipe {K : PySem.W.Frag} {B : Hp} {ρ : List Addr} {σ : L2.St} {env : Env'} (s : Sl K B ρ σ env) : ∀ vs : List Nat, Sl K B ρ (wipe σ vs) (wipeE env vs)
  | [] => s
  | v :: vs => by
    have ih := Sl.wipe s vs
    unfold L2.wipe wipeE
    refine ⟨by simp [ih.len], fun j x h => ?_⟩
    by_cases hj : v = j
    · subst hj
      by_cases hi : v < (wipeE env vs).length
      · rw [List.getElem?_set_self hi] at h
        cases h
      · rw [List.getElem?_eq_none (by simp; omega)] at h
        cases h
    · rw [List.getElem?_set_ne hj] at h
      rw [List.getElem?_set_ne hj]
      exact ih.at_ j x h

/-! ### what is let out -/
inductive RepF (K : PySem.W.Frag) (B : Hp) (ρ : List Addr) : List (Str × V) → List (Str × W) → Prop
  | nil : RepF K B ρ [] []
  | cons {x : Str} {v : V} {w : W} {fv : List (Str × V)} {fs : List (Str × W)} : Rep K B ρ v w → RepF K B ρ fv fs → RepF K B ρ ((x, v) :: fv) ((x, w) :: fs)
def ExP (K : PySem.W.Frag) (mg : Str → Option Value) (Wx : WX) : Str → List (Str × W) → Env' → List Addr → Hp → Hp → Prop := fun c fs env ρ' B' H' =>
  ∀ σ' C d fv, Sl K B' ρ' σ' env → mg c = some (.ref C) → H' d = some (.xd fv) → RepF K B' ρ' fv fs → Wx (.ref C) (some d) σ' H'
/-- what a def promises: what the evaluator's call says -/
def SpF (K : PySem.W.Frag) (mg : Str → Option Value) (cl : Str → List W → Sto → R W) (f : Str) (n : Nat) : Sp := fun vs H Q E => vs.length = n ∧ ∃ ρ S B ws, SR K ρ S B H ∧ RepL K B ρ vs ws ∧
  Hold K (cl f ws S) ρ B H (fun w S' ρ' B' H' => ∀ v, Rep K B' ρ' v w → Q v H') (fun c fs _ ρ' B' H' => ∀ C d fv, mg c = some (.ref C) → H' d = some (.xd fv) → RepF K B' ρ' fv fs → E (.ref C) (some d) H')

/-! ### where the evaluator stands -/
structure CxOk (pg : Pg) (cl : Str → List W → Sto → R W) (g : Gm) (Wx : WX) (X : Cx) : Prop where
  N : X.N = g.N
  nd : X.N.Nodup
  sc : X.env.scope = g.sc
  fn : X.fn = g.fn
  calm : X.calm = true
  un : X.A.units + 65 < cLine
  pass : PassesOwn (model X.prog X.w) X.A X.env X.xe
  tk : Takes X Wx
  cst : ∀ x w, pg.cst x = some w → ∃ u v, X.mg x = some u ∧ RelV v u ∧ ∀ B, Rep X.K B [] v w
  fns : ∀ f n, pg.ar f = some n → ∃ a fd k ps, ps.length = n ∧ FnOk X.prog X.w X.K X.mg X.base (L2.CX X.prog X.w) k a fd ps (SpF X.K X.mg cl f n) ∧ X.mg f = some (.ref a) ∧ PySem.W.keepIn X.K (.ref a) = true ∧ Binds X.K fd ps [] ∧ Room k X.A
  free : ∀ f ∈ pg.free, X.mg f = none

def okE (K : PySem.W.Frag) (Q : VK) : W → Sto → List Addr → Hp → Hp → Prop := fun w _ ρ' B' H' => ∀ v, Rep K B' ρ' v w → Q v H'
def okT (Q : Bool → Hp → Prop) : Bool → Sto → List Addr → Hp → Hp → Prop := fun b _ _ _ H' => Q b H'
def okA (K : PySem.W.Frag) (Q : List V → Hp → Prop) : List W → Sto → List Addr → Hp → Hp → Prop := fun ws _ ρ' B' H' => ∀ vs, RepL K B' ρ' vs ws → Q vs H'
def okS (K : PySem.W.Frag) (D : Ends) : Out' → Sto → List Addr → Hp → Hp → Prop := fun o _ ρ' B' H' => match o with
  | .next env => ∀ σ', Sl K B' ρ' σ' env → D.nx σ' H'
  | .ret w => ∀ v, Rep K B' ρ' v w → D.rt v H'
  | .brk env => ∀ σ', Sl K B' ρ' σ' env → D.bk σ' H'
  | .cont env => ∀ σ', Sl K B' ρ' σ' env → D.ct σ' H'
/-- the evaluator is right -/
structure EvOk (pg : Pg) (cl : Str → List W → Sto → R W) (E : Evs) : Prop where
  e : ∀ {g : Gm} {Wx : WX} {X : Cx}, CxOk pg cl g Wx X → ∀ {e : Expr} {env : Env'} {S : Sto} {σ : L2.St} {ρ : List Addr} {B H : Hp} {Q : VK}, Sl X.K B ρ σ env → SR X.K ρ S B H → Hold X.K (E.e g env S e) ρ B H (okE X.K Q) (ExP X.K X.mg Wx) → wE X e σ H Q
  t : ∀ {g : Gm} {Wx : WX} {X : Cx}, CxOk pg cl g Wx X → ∀ {e : Expr} {env : Env'} {S : Sto} {σ : L2.St} {ρ : List Addr} {B H : Hp} {Q : Bool → Hp → Prop}, Sl X.K B ρ σ env → SR X.K ρ S B H → Hold X.K (E.t g env S e) ρ B H (okT Q) (ExP X.K X.mg Wx) → wT X e σ H Q
  s : ∀ {g : Gm} {Wx : WX} {X : Cx}, CxOk pg cl g Wx X → ∀ {st : Stmt} {env : Env'} {S : Sto} {σ : L2.St} {ρ : List Addr} {B H : Hp} {D : Ends}, Sl X.K B ρ σ env → SR X.K ρ S B H → Hold X.K (E.s g env S st) ρ B H (okS X.K D) (ExP X.K X.mg Wx) → wS X st D σ H

section
variable {pg : Pg} {cl : Str → List W → Sto → R W} {E : Evs} {g : Gm} {Wx : WX} {X : Cx}
/-- the next part -/
theorem EvOk.e' (h : EvOk pg cl E) (C : CxOk pg cl g Wx X) {β : Type} {e : Expr} {env : Env'} {S : Sto} {σ : L2.St} {ρ : List Addr} {B H : Hp} {Q : VK} {f : W → Sto → R β} {ok : β → Sto → List Addr → Hp → Hp → Prop} (sl : Sl X.K B ρ σ env) (sr : SR X.K ρ S B H)
    (hd : Hold X.K ((E.e g env S e).bind f) ρ B H ok (ExP X.K X.mg Wx)) (k : ∀ w S' ρ' B' H' v, Ext ρ B H ρ' B' H' → SR X.K ρ' S' B' H' → Sl X.K B' ρ' σ env → Rep X.K B' ρ' v w → Hold X.K (f w S') ρ' B' H' ok (ExP X.K X.mg Wx) → Q v H') : wE X e σ H Q :=
  h.e C sl sr (hd.bind.imp (fun w S' ρ' B' H' x s' q v r => k w S' ρ' B' H' v x s' (sl.mono x) r q) fun _ _ _ _ _ _ q => q)
theorem EvOk.t' (h : EvOk pg cl E) (C : CxOk pg cl g Wx X) {β : Type} {e : Expr} {env : Env'} {S : Sto} {σ : L2.St} {ρ : List Addr} {B H : Hp} {Q : Bool → Hp → Prop} {f : Bool → Sto → R β} {ok : β → Sto → List Addr → Hp → Hp → Prop} (sl : Sl X.K B ρ σ env) (sr : SR X.K ρ S B H)
    (hd : Hold X.K ((E.t g env S e).bind f) ρ B H ok (ExP X.K X.mg Wx)) (k : ∀ b S' ρ' B' H', Ext ρ B H ρ' B' H' → SR X.K ρ' S' B' H' → Sl X.K B' ρ' σ env → Hold X.K (f b S') ρ' B' H' ok (ExP X.K X.mg Wx) → Q b H') : wT X e σ H Q :=
  h.t C sl sr (hd.bind.imp (fun b S' ρ' B' H' x s' q => k b S' ρ' B' H' x s' (sl.mono x) q) fun _ _ _ _ _ _ q => q)
theorem Hold.here {K : PySem.W.Frag} {α : Type} {a : α} {S : Sto} {ρ : List Addr} {B H : Hp} {ok : α → Sto → List Addr → Hp → Hp → Prop} {ex : Str → List (Str × W) → Env' → List Addr → Hp → Hp → Prop} (h : Hold K (.ok a S) ρ B H ok ex) (s : SR K ρ S B H) : ok a S ρ B H := h ρ B H Ext.refl s
/-- a value at the end -/
theorem Hold.val {K : PySem.W.Frag} {w : W} {S : Sto} {ρ : List Addr} {B H : Hp} {Q : VK} {ex : Str → List (Str × W) → Env' → List Addr → Hp → Hp → Prop} (h : Hold K (.ok w S) ρ B H (okE K Q) ex) : Val K w S Q ρ B H :=
  fun ρ' B' H' v x s r => h ρ' B' H' x s v r

/-! ### rows of parts -/
theorem star_no {e : Expr} {es : List Expr} {env : Env} (h : notStar e = true) : starEach (e :: es) env = (false, eval e env) :: starEach es env := by
  cases e <;> first | rfl | cases h
theorem mapR0_ok (hE : EvOk pg cl E) (C : CxOk pg cl g Wx X) : ∀ {es : List Expr} {env : Env'} {S : Sto} {σ : L2.St} {ρ : List Addr} {B H : Hp} {Q : List V → Hp → Prop}, es.all notStar = true → Sl X.K B ρ σ env → SR X.K ρ S B H →
    Hold X.K (mapR0 (fun e S => E.e g env S e) es S) ρ B H (okA X.K Q) (ExP X.K X.mg Wx) → wA X es σ H Q
  | [], env, S, σ, ρ, B, H, Q, hs, sl, sr, h => wA_of pa_nil (h.here sr [] .nil)
  | e :: es, env, S, σ, ρ, B, H, Q, hs, sl, sr, h => by
    unfold mapR0 at h
    rw [List.all_cons, Bool.and_eq_true] at hs
    refine wA_of (pa_cons pwE pwA (star_no hs.1)) ?_
    refine hE.e' C sl sr h fun w S1 ρ1 B1 H1 v x s1 sl1 r q => ?_
    refine mapR0_ok hE C hs.2 sl1 s1 (q.bind.imp (fun ws S2 ρ2 B2 H2 x2 s2 q2 vs rs => ?_) fun _ _ _ _ _ _ z => z)
    exact q2.here s2 (v :: vs) (.cons (r.mono x2.b x2.pre) rs)
theorem mapR_ok (hE : EvOk pg cl E) (C : CxOk pg cl g Wx X) {es : List Expr} {env : Env'} {S : Sto} {σ : L2.St} {ρ : List Addr} {B H : Hp} {Q : List V → Hp → Prop} (sl : Sl X.K B ρ σ env) (sr : SR X.K ρ S B H)
    (h : Hold X.K (mapR (fun e S => E.e g env S e) es S) ρ B H (okA X.K Q) (ExP X.K X.mg Wx)) : wA X es σ H Q :=
  let ⟨h1, h2⟩ := h.grd
  mapR0_ok hE C h1 sl sr h2
theorem mapR_stars {K : PySem.W.Frag} {β : Type} {f : Expr → Sto → R W} {es : List Expr} {S : Sto} {k : List W → Sto → R β} {ρ : List Addr} {B H : Hp} {ok : β → Sto → List Addr → Hp → Hp → Prop} {ex : Str → List (Str × W) → Env' → List Addr → Hp → Hp → Prop}
    (h : Hold K ((mapR f es S).bind k) ρ B H ok ex) : ∀ e ∈ es, notStar e = true := by
  have q := h.bind.grd.1
  exact List.all_eq_true.mp q
theorem mapR_bind (hE : EvOk pg cl E) (C : CxOk pg cl g Wx X) {β : Type} {es : List Expr} {env : Env'} {S : Sto} {σ : L2.St} {ρ : List Addr} {B H : Hp} {Q : List V → Hp → Prop} {f : List W → Sto → R β} {ok : β → Sto → List Addr → Hp → Hp → Prop} (sl : Sl X.K B ρ σ env) (sr : SR X.K ρ S B H)
    (hd : Hold X.K ((mapR (fun e S => E.e g env S e) es S).bind f) ρ B H ok (ExP X.K X.mg Wx)) (k : ∀ ws S' ρ' B' H' vs, Ext ρ B H ρ' B' H' → SR X.K ρ' S' B' H' → Sl X.K B' ρ' σ env → RepL X.K B' ρ' vs ws → Hold X.K (f ws S') ρ' B' H' ok (ExP X.K X.mg Wx) → Q vs H') : wA X es σ H Q :=
  mapR_ok hE C sl sr (hd.bind.imp (fun ws S' ρ' B' H' x s' q vs r => k ws S' ρ' B' H' vs x s' (sl.mono x) r q) fun _ _ _ _ _ _ q => q)
theorem allR_ok (hE : EvOk pg cl E) (C : CxOk pg cl g Wx X) {op : BoolOp} {pos : Pos} : ∀ {es : List Expr} {env : Env'} {S : Sto} {σ : L2.St} {ρ : List Addr} {B H : Hp} {Q : Bool → Hp → Prop}, Sl X.K B ρ σ env → SR X.K ρ S B H →
    Hold X.K (allR (fun e S => E.t g env S e) op es S) ρ B H (okT Q) (ExP X.K X.mg Wx) → wW X (.BoolOp op es pos) σ H Q
  | [], env, S, σ, ρ, B, H, Q, sl, sr, h => h.elim
  | [a], env, S, σ, ρ, B, H, Q, sl, sr, h => by
    cases op with
    | And => exact wW_of (pw_and1 pwT) (hE.t C sl sr h)
    | Or => exact wW_of (pw_or1 pwT) (hE.t C sl sr h)
  | a :: b :: r, env, S, σ, ρ, B, H, Q, sl, sr, h => by
    unfold allR at h
    cases op with
    | And =>
      refine wW_of (pw_and pwT pwW) (hE.t' C sl sr h fun c S1 ρ1 B1 H1 x s1 sl1 q => ?_)
      cases c with
      | true => exact iteT (allR_ok hE C sl1 s1 q)
      | false => exact iteF (q.here s1)
    | Or =>
      refine wW_of (pw_or pwT pwW) (hE.t' C sl sr h fun c S1 ρ1 B1 H1 x s1 sl1 q => ?_)
      cases c with
      | true => exact iteT (q.here s1)
      | false => exact iteF (allR_ok hE C sl1 s1 q)
theorem valR_ok (hE : EvOk pg cl E) (C : CxOk pg cl g Wx X) {op : BoolOp} {pos : Pos} : ∀ {es : List Expr} {env : Env'} {S : Sto} {σ : L2.St} {ρ : List Addr} {B H : Hp} {Q : VK}, Sl X.K B ρ σ env → SR X.K ρ S B H →
    Hold X.K (valR (fun e S => E.e g env S e) op es S) ρ B H (okE X.K Q) (ExP X.K X.mg Wx) → wE X (.BoolOp op es pos) σ H Q
  | [], env, S, σ, ρ, B, H, Q, sl, sr, h => h.elim
  | [a], env, S, σ, ρ, B, H, Q, sl, sr, h => wE_of (pe_one pwE) (hE.e C sl sr h)
  | a :: b :: r, env, S, σ, ρ, B, H, Q, sl, sr, h => by
    unfold valR at h
    cases op with
    | And =>
      refine wE_of (pe_and pwE pwE) (hE.e' C sl sr h fun w S1 ρ1 B1 H1 v x s1 sl1 rv q => ?_)
      cases w with
      | bl c =>
        cases rv
        refine ⟨c, rfl, ?_⟩
        cases c with
        | true => exact iteT (valR_ok hE C sl1 s1 q)
        | false => exact iteF (q.here s1 _ (.bl _))
      | _ => exact q.elim
    | Or =>
      refine wE_of (pe_or pwE pwE) (hE.e' C sl sr h fun w S1 ρ1 B1 H1 v x s1 sl1 rv q => ?_)
      cases w with
      | bl c =>
        cases rv
        refine ⟨c, rfl, ?_⟩
        cases c with
        | true => exact iteT (q.here s1 _ (.bl _))
        | false => exact iteF (valR_ok hE C sl1 s1 q)
      | _ => exact q.elim
theorem seqR_ok (hE : EvOk pg cl E) (C : CxOk pg cl g Wx X) : ∀ {sts : List Stmt} {env : Env'} {S : Sto} {σ : L2.St} {ρ : List Addr} {B H : Hp} {D : Ends}, Sl X.K B ρ σ env → SR X.K ρ S B H →
    Hold X.K (seqR (fun env S s => E.s g env S s) sts env S) ρ B H (okS X.K D) (ExP X.K X.mg Wx) → wSs X sts D σ H
  | [], env, S, σ, ρ, B, H, D, sl, sr, h => wSs_of pss_nil (h.here sr σ sl)
  | s :: r, env, S, σ, ρ, B, H, D, sl, sr, h => by
    unfold seqR at h
    refine wSs_of (pss_cons pwS pwSs) ?_
    refine hE.s C sl sr (h.bind.imp (fun o S1 ρ1 B1 H1 x s1 q => ?_) fun _ _ _ _ _ _ z => z)
    cases o with
    | next env1 => exact fun σ' sl' => seqR_ok hE C sl' s1 q
    | ret w => exact q.here s1
    | brk env1 => exact q.here s1
    | cont env1 => exact q.here s1
end
end Mi

set_option Elab.async false
set_option linter.all false
set_option maxRecDepth 100000
set_option maxHeartbeats 4000000
/-! Mi5: names, built-in calls, subscripts, truth. -/
namespace Mi
open PySem PySem.Spec PyProof.Rows L2
section
variable {pg : Pg} {cl : Str → List W → Sto → R W} {E : Evs} {g : Gm} {Wx : WX} {X : Cx}

theorem vis_ok (C : CxOk pg cl g Wx X) {x : Str} (h : visB g.sc x = true) : Vis X.env.scope x := by
  unfold visB at h
  unfold Vis
  rw [C.sc]
  split at h
  · rename_i e; exact .inl e
  · rename_i e; exact .inr (.inl e)
  · rename_i e; exact .inr (.inr e)
  · cases h
theorem glo_okB (C : CxOk pg cl g Wx X) {x : Str} (h : gloB g.sc x = true) : Gl X x := by
  unfold gloB at h
  show X.env.scope.names.lookup x = _
  rw [C.sc]
  split at h
  · assumption
  · cases h
theorem odd_no {x : Str} (h : (!odd x) = true) : (x == ("__debug__" : Str)) = false ∧ (x == ("__classdict__" : Str)) = false ∧ x ≠ "__name__" := by
  unfold odd at h
  cases h1 : (x == ("__debug__" : Str)) with
  | true => rw [h1] at h; cases h
  | false =>
    cases h2 : (x == ("__classdict__" : Str)) with
    | true => rw [h1, h2] at h; cases h
    | false =>
      cases h3 : (x == ("__name__" : Str)) with
      | true => rw [h1, h2, h3] at h; cases h
      | false =>
        refine ⟨rfl, rfl, fun e => ?_⟩
        subst e
        simp at h3
theorem nameE_ok (C : CxOk pg cl g Wx X) {x : Str} {pos : Pos} {env : Env'} {S : Sto} {σ : L2.St} {ρ : List Addr} {B H : Hp} {Q : VK} (sl : Sl X.K B ρ σ env) (sr : SR X.K ρ S B H)
    (h : Hold X.K (nameE pg g env S x) ρ B H (okE X.K Q) (ExP X.K X.mg Wx)) : wE X (.Name x pos) σ H Q := by
  unfold nameE at h
  obtain ⟨h1, h2⟩ := h.grd
  obtain ⟨o1, o2, o3⟩ := odd_no h1
  split at h2
  · rename_i hv
    split at h2
    · rename_i i hi
      split at h2
      · rename_i w hw
        obtain ⟨v, e1, r⟩ := sl.at_ i w hw
        exact wE_of (pe_var (i := i) (by rw [C.N]; exact slotOf_get hi) (vis_ok C hv) o1 o2) ⟨v, e1, h2.here sr v r⟩
      · exact h2.elim
    · exact h2.elim
  · obtain ⟨h3, h4⟩ := h2.grd
    obtain ⟨w, e, k⟩ := h4.lift
    obtain ⟨u, v, m, r, rp⟩ := C.cst x w e
    exact wE_of (pe_glob (glo_okB C h3) m r o1) (k ρ B H Ext.refl sr v ((rp B).mono (Same.refl B) ⟨ρ, rfl⟩))

/-! ### built-in calls -/
theorem bools_ok {K : PySem.W.Frag} {B : Hp} {ρ : List Addr} : ∀ {vs : List V} {ws : List W} {bs : List Bool}, RepL K B ρ vs ws → bools ws = some bs → vs = bs.map V.bl
  | _, _, _, .nil, e => by cases e; rfl
  | _, _, _, .cons (w := w) r t, e => by
    cases r with
    | bl b =>
      unfold bools at e
      cases q : bools _ with
      | none => rw [q] at e; cases e
      | some bs =>
        rw [q] at e
        cases e
        rw [List.map_cons, bools_ok t q]
    | _ => cases e
theorem lenW_ok {K : PySem.W.Frag} {B H : Hp} {ρ : List Addr} {S : Sto} {v : V} {w : W} {n : Int} (s : SR K ρ S B H) (r : Rep K B ρ v w) (e : lenW S w = some n) : ∃ m : Nat, LenV K v H m ∧ n = m := by
  unfold lenW at e
  split at e
  · cases r
    split at e
    · rename_i hz
      cases e
      exact ⟨_, ⟨small_line hz, rfl⟩, rfl⟩
    · cases e
  · split at e
    · rename_i ws hs
      cases e
      obtain ⟨a, xs, rfl, h1, h2⟩ := seqL_ok s r hs
      exact ⟨_, .inl ⟨xs, h1, rfl⟩, by rw [h2.length]⟩
    · cases q : seqT w with
      | none => rw [q] at e; cases e
      | some ws =>
        rw [q] at e
        cases e
        obtain ⟨a, xs, rfl, h1, h2⟩ := seqT_ok s r q
        exact ⟨_, .inr ⟨xs, h1, rfl⟩, by rw [h2.length]⟩
theorem one_of {K : PySem.W.Frag} {B : Hp} {ρ : List Addr} {vs : List V} {w : W} (r : RepL K B ρ vs [w]) : ∃ v, vs = [v] ∧ Rep K B ρ v w := by
  cases r with
  | cons r t => cases t; exact ⟨_, rfl, r⟩
theorem two_of {K : PySem.W.Frag} {B : Hp} {ρ : List Addr} {vs : List V} {w w' : W} (r : RepL K B ρ vs [w, w']) : ∃ v v', vs = [v, v'] ∧ Rep K B ρ v w ∧ Rep K B ρ v' w' := by
  cases r with
  | cons r t =>
    cases t with
    | cons r' t => cases t; exact ⟨_, _, rfl, r, r'⟩
theorem stars_no {env : Env} {pos : Pos} : ∀ {es : List Expr}, (∀ e ∈ es, notStar e = true) → (backTo pos (starEach es env)).any (·.1) = false
  | [], _ => rfl
  | e :: es, h => by
    rw [star_no (h e (List.mem_cons_self ..))]
    show (false || (backTo pos (starEach es env)).any (·.1)) = false
    rw [stars_no fun e' he => h e' (List.mem_cons_of_mem _ he)]
    rfl
/-- the call of a built-in -/
theorem bcall_ok (C : CxOk pg cl g Wx X) {f : Str} {p pos : Pos} {a : Expr} {as : List Expr} {Q : VK} {t : TA} (hg : gloB g.sc f = true) (hk : known f = true) (ho : (!odd f) = true) (hm : X.mg f = none) (hs : ∀ e ∈ a :: as, notStar e = true) (ha : PA X (a :: as) t) {σ : L2.St} {H0 : Hp}
    (k : t σ H0 fun vs H => ∃ S1 ρ B ws w, SR X.K ρ S1 B H ∧ RepL X.K B ρ vs ws ∧ bcall S1 f ws = some w ∧ Val X.K w S1 Q ρ B H)
    (mono : ∀ {P P' : List V → Hp → Prop}, t σ H0 P → (∀ vs H, P vs H → P' vs H) → t σ H0 P') : wE X (.Call (.Name f p) (a :: as) [] pos) σ H0 Q := by
  obtain ⟨o1, o2, o3⟩ := odd_no ho
  have he := star_no (es := as) (env := X.env) (hs a (List.mem_cons_self ..))
  have hp : (backTo pos (starEach as X.env)).any (·.1) = false := stars_no fun e' he => hs e' (List.mem_cons_of_mem _ he)
  have bi : ∀ {id : String}, bootBuiltins f = some (.builtin id) → (t σ H0 fun vs H => callW X (.builtin id) vs H Q) → wE X (.Call (.Name f p) (a :: as) [] pos) σ H0 Q := fun hv q =>
    wE_of (pe_callB callW_r (glo_okB C hg) hm hv ha o3 o1 he hp) q
  have ty : ∀ {id : String}, bootBuiltins f = some (.type id) → (t σ H0 fun vs H => callW X (.type id) vs H Q) → wE X (.Call (.Name f p) (a :: as) [] pos) σ H0 Q := fun hv q =>
    wE_of (pe_callTy callW_r (glo_okB C hg) hm hv ha o3 o1 he hp) q
  by_cases c : f = "len"
  · subst c
    refine bi boot_len (mono k fun vs H ⟨S1, ρ, B, ws, w, sr, r, e, v⟩ => ?_)
    unfold bcall at e
    rw [if_pos rfl] at e
    split at e
    · rename_i x
      cases q : lenW S1 x with
      | none => rw [q] at e; cases e
      | some n =>
        rw [q] at e
        cases e
        obtain ⟨y, rfl, ry⟩ := one_of r
        obtain ⟨m, h1, rfl⟩ := lenW_ok sr ry q
        exact callW_of call_len ⟨y, m, rfl, h1, v.here sr (.int _)⟩
    · cases e
  by_cases c2 : f = "int"
  · subst c2
    refine ty boot_int (mono k fun vs H ⟨S1, ρ, B, ws, w, sr, r, e, v⟩ => ?_)
    unfold bcall at e
    rw [if_neg c, if_pos rfl] at e
    split at e
    · cases e
      obtain ⟨y, rfl, ry⟩ := one_of r
      cases ry
      exact callW_of call_int1 (.inl ⟨_, rfl, v.here sr (.int _)⟩)
    · rename_i a
      split at e
      · rename_i hl
        cases q : PySem.intText? a with
        | none => rw [q] at e; cases e
        | some n =>
          rw [q] at e
          cases e
          obtain ⟨y, rfl, ry⟩ := one_of r
          cases ry
          exact callW_of call_int_str ⟨_, _, rfl, q, hl, v.here sr (.int _)⟩
      · cases e
    · cases e
  by_cases c3 : f = "str"
  · subst c3
    refine ty boot_str (mono k fun vs H ⟨S1, ρ, B, ws, w, sr, r, e, v⟩ => ?_)
    unfold bcall at e
    rw [if_neg c, if_neg c2, if_pos rfl] at e
    split at e
    · split at e
      · rename_i hl
        cases e
        obtain ⟨y, rfl, ry⟩ := one_of r
        cases ry
        exact callW_of call_str_int ⟨_, rfl, hl, v.here sr (.str _)⟩
      · cases e
    · cases e
  by_cases c4 : f = "all"
  · subst c4
    refine bi boot_all (mono k fun vs H ⟨S1, ρ, B, ws, w, sr, r, e, v⟩ => ?_)
    unfold bcall at e
    rw [if_neg c, if_neg c2, if_neg c3, if_pos rfl] at e
    split at e
    · rename_i x
      split at e
      · rename_i xs hx
        cases q : bools xs with
        | none => rw [q] at e; cases e
        | some bs =>
          rw [q] at e
          cases e
          obtain ⟨y, rfl, ry⟩ := one_of r
          obtain ⟨l, ys, rfl, h1, h2⟩ := seqL_ok sr ry hx
          rw [bools_ok h2 q] at h1
          exact callW_of (cr_all C.calm) ⟨l, bs, rfl, h1, v.here sr (.bl _)⟩
      · cases e
    · cases e
  by_cases c5 : f = "any"
  · subst c5
    refine bi boot_any (mono k fun vs H ⟨S1, ρ, B, ws, w, sr, r, e, v⟩ => ?_)
    unfold bcall at e
    rw [if_neg c, if_neg c2, if_neg c3, if_neg c4, if_pos rfl] at e
    split at e
    · rename_i x
      split at e
      · rename_i xs hx
        cases q : bools xs with
        | none => rw [q] at e; cases e
        | some bs =>
          rw [q] at e
          cases e
          obtain ⟨y, rfl, ry⟩ := one_of r
          obtain ⟨l, ys, rfl, h1, h2⟩ := seqL_ok sr ry hx
          rw [bools_ok h2 q] at h1
          exact callW_of (cr_any C.calm) ⟨l, bs, rfl, h1, v.here sr (.bl _)⟩
      · cases e
    · cases e
  by_cases c6 : f = "min"
  · subst c6
    refine bi boot_min (mono k fun vs H ⟨S1, ρ, B, ws, w, sr, r, e, v⟩ => ?_)
    unfold bcall at e
    rw [if_neg c, if_neg c2, if_neg c3, if_neg c4, if_neg c5, if_pos rfl] at e
    split at e
    · cases e
      obtain ⟨y, z, rfl, ry, rz⟩ := two_of r
      cases ry; cases rz
      exact callW_of (call_min2 C.calm) ⟨_, _, rfl, v.here sr (.int _)⟩
    · cases e
  by_cases c7 : f = "max"
  · subst c7
    refine bi boot_max (mono k fun vs H ⟨S1, ρ, B, ws, w, sr, r, e, v⟩ => ?_)
    unfold bcall at e
    rw [if_neg c, if_neg c2, if_neg c3, if_neg c4, if_neg c5, if_neg c6, if_pos rfl] at e
    split at e
    · cases e
      obtain ⟨y, z, rfl, ry, rz⟩ := two_of r
      cases ry; cases rz
      exact callW_of (call_max2 C.calm) ⟨_, _, rfl, v.here sr (.int _)⟩
    · cases e
  by_cases c8 : f = "list"
  · subst c8
    refine ty boot_list (mono k fun vs H ⟨S1, ρ, B, ws, w, sr, r, e, v⟩ => ?_)
    unfold bcall at e
    rw [if_neg c, if_neg c2, if_neg c3, if_neg c4, if_neg c5, if_neg c6, if_neg c7, if_pos rfl] at e
    split at e
    · rename_i x
      split at e
      · rename_i xs hx
        cases e
        obtain ⟨y, rfl, ry⟩ := one_of r
        obtain ⟨l, ys, rfl, h1, h2⟩ := seqL_ok sr ry hx
        exact callW_of call_list_of ⟨l, ys, rfl, .inl h1, fun p hp => v.newL sr h2 hp⟩
      · cases q : seqT x with
        | none => rw [q] at e; cases e
        | some xs =>
          rw [q] at e
          cases e
          obtain ⟨y, rfl, ry⟩ := one_of r
          obtain ⟨l, ys, rfl, h1, h2⟩ := seqT_ok sr ry q
          exact callW_of call_list_of ⟨l, ys, rfl, .inr h1, fun p hp => v.newL sr h2 hp⟩
    · cases e
  by_cases c9 : f = "tuple"
  · subst c9
    refine ty boot_tuple (mono k fun vs H ⟨S1, ρ, B, ws, w, sr, r, e, v⟩ => ?_)
    unfold bcall at e
    rw [if_neg c, if_neg c2, if_neg c3, if_neg c4, if_neg c5, if_neg c6, if_neg c7, if_neg c8, if_pos rfl] at e
    split at e
    · rename_i x
      split at e
      · rename_i xs hx
        cases e
        obtain ⟨y, rfl, ry⟩ := one_of r
        obtain ⟨l, ys, rfl, h1, h2⟩ := seqL_ok sr ry hx
        exact callW_of call_tuple_of ⟨l, ys, rfl, .inl ⟨h1, fun p hp => v.newT sr h2 hp⟩⟩
      · cases q : seqT x with
        | none => rw [q] at e; cases e
        | some xs =>
          rw [q] at e
          cases e
          obtain ⟨y, rfl, ry⟩ := one_of r
          cases ry with
          | tup h1 h2 =>
            cases q
            exact callW_of call_tuple_of ⟨_, _, rfl, .inr ⟨Same.tup sr.same h1, v.here sr (.tup h1 h2)⟩⟩
          | _ => cases q
    · cases e
  · exfalso
    unfold known at hk
    rw [decide_eq_false c, decide_eq_false c2, decide_eq_false c3, decide_eq_false c4, decide_eq_false c5, decide_eq_false c6, decide_eq_false c7, decide_eq_false c8, decide_eq_false c9] at hk
    cases hk

/-! ### subscripts -/
theorem atI_rep {K : PySem.W.Frag} {B : Hp} {ρ : List Addr} {xs : List V} {ws : List W} {i : Int} {w : W} (r : RepL K B ρ xs ws) (e : atI ws i = some w) : ∃ v, atI xs i = some v ∧ Rep K B ρ v w := by
  unfold atI at e ⊢
  rw [← r.length] at e
  cases q : ixN xs.length i with
  | none => rw [q] at e; cases e
  | some j =>
    rw [q] at e
    exact r.get e
theorem ixS_ok {B H : Hp} {ρ : List Addr} {S : Sto} {Q : VK} {x y : V} {a b c : W} (s : SR X.K ρ S B H) (rx : Rep X.K B ρ x a) (ry : Rep X.K B ρ y b) (e : ixS S a b = some c) (k : Val X.K c S Q ρ B H) : ixW X x y H Q := by
  unfold ixS at e
  split at e
  · cases ry
    split at e
    · cases rx
      split at e
      · rename_i z hz
        cases q : atI z.cps.toList _ with
        | none => rw [q] at e; cases e
        | some d =>
          rw [q] at e
          cases e
          exact ixW_of ix_str ⟨_, _, d, rfl, rfl, small_line hz, q, k.here s (.str _)⟩
      · cases e
    · split at e
      · rename_i ws hs
        obtain ⟨p, xs, rfl, h1, h2⟩ := seqL_ok s rx hs
        obtain ⟨v, e1, rv⟩ := atI_rep h2 e
        exact ixW_of ix_list ⟨p, xs, _, v, rfl, rfl, h1, e1, k.here s rv⟩
      · split at e
        · rename_i ws hs
          obtain ⟨p, xs, rfl, h1, h2⟩ := seqT_ok s rx hs
          obtain ⟨v, e1, rv⟩ := atI_rep h2 e
          exact ixW_of ix_tup ⟨p, xs, _, v, rfl, rfl, h1, e1, k.here s rv⟩
        · cases e
  · cases e
def slW (X : Cx) : V → Option Int → Option Int → Hp → VK → Prop := fun x lo hi H Q => ∀ pins s σ v vl vu sl, Inv X pins σ H s → RelV x v → s.heap.IsSliceOf sl vl vu .none → IsPart vl lo → IsPart vu hi →
  ∃ T id, typeLookup (.type T) "__getitem__" = pure (some (.builtin id)) ∧ s.TypeIs v T ∧ wpAny (model X.prog X.w) X.A (getItem v (.ref sl)) (EP X pins σ Q) X.xe s
theorem slW_r : SlR X (slW X) := fun pins s σ H x v vl vu lo hi sl Q I rx hs pl pu h => h pins s σ v vl vu sl I rx hs pl pu
theorem slW_of {r : V → Option Int → Option Int → Hp → VK → Prop} (h : SlR X r) {x : V} {lo hi : Option Int} {H : Hp} {Q : VK} (q : r x lo hi H Q) : slW X x lo hi H Q := fun pins s σ v vl vu sl I rx hs pl pu => h pins s σ H x v vl vu lo hi sl Q I rx hs pl pu q
theorem cut_rep {K : PySem.W.Frag} {B : Hp} {ρ : List Addr} {xs : List V} {ws : List W} {lo hi : Option Int} (r : RepL K B ρ xs ws) : RepL K B ρ (cutV xs lo hi) (cutW ws lo hi) := by
  unfold cutV cutW
  rw [← r.length]
  exact (r.drop _).take _
theorem slS_ok {B H : Hp} {ρ : List Addr} {S : Sto} {Q : VK} {x : V} {a c : W} {lo hi : Option Int} (s : SR X.K ρ S B H) (rx : Rep X.K B ρ x a) (e : slS S a lo hi = some c) (k : Val X.K c S Q ρ B H) : slW X x lo hi H Q := by
  unfold slS at e
  split at e
  · cases rx
    split at e
    · rename_i z hz
      cases e
      exact slW_of sl_str ⟨_, rfl, small_line hz, k.here s (.str _)⟩
    · cases e
  · split at e
    · rename_i ws hs
      cases e
      obtain ⟨p, xs, rfl, h1, h2⟩ := seqL_ok s rx hs
      exact slW_of sl_list ⟨p, xs, rfl, h1, fun q hq => k.newL s (cut_rep h2) hq⟩
    · cases q : seqT a with
      | none => rw [q] at e; cases e
      | some ws =>
        rw [q] at e
        cases e
        cases rx with
        | tup h1 h2 =>
          cases q
          refine slW_of sl_tupA ⟨_, _, rfl, Same.tup s.same h1, fun hc => ?_, fun _ p hp => k.newT s (cut_rep h2) hp⟩
          have ec : cutW ws lo hi = ws := by
            unfold cutW
            rw [← h2.length, hc.1, hc.2, h2.length]
            simp
          have k' : Val X.K (.tup (cutW ws lo hi)) S Q ρ B H := k
          rw [ec] at k'
          exact k'.here s (.tup h1 h2)
        | _ => cases q

/-! ### truth -/
theorem truth_ok {K : PySem.W.Frag} {B H : Hp} {ρ : List Addr} {S : Sto} {v : V} {w : W} {b : Bool} (s : SR K ρ S B H) (r : Rep K B ρ v w) (e : truth S w = some b) : TruV K v H b := by
  have emp : ∀ {xs : List V} {ws : List W}, RepL K B ρ xs ws → (!ws.isEmpty) = !xs.isEmpty := fun r => by cases r <;> rfl
  unfold truth at e
  split at e
  · cases r; cases e; rfl
  · cases r; cases e; rfl
  · cases r; cases e; rfl
  · cases r
    split at e
    · rename_i hz
      cases e
      exact ⟨small_line hz, rfl⟩
    · cases e
  · split at e
    · rename_i ws hs
      cases e
      obtain ⟨p, xs, rfl, h1, h2⟩ := seqL_ok s r hs
      exact .inl ⟨xs, h1, emp h2⟩
    · cases q : seqT w with
      | none => rw [q] at e; cases e
      | some ws =>
        rw [q] at e
        cases e
        obtain ⟨p, xs, rfl, h1, h2⟩ := seqT_ok s r q
        exact .inr (.inl ⟨xs, h1, emp h2⟩)
end
end Mi

set_option Elab.async false
set_option linter.all false
set_option maxRecDepth 100000
set_option maxHeartbeats 4000000
/-! Mi6: targets, walks, loops, comprehensions. -/
namespace Mi
open PySem PySem.Spec PyProof.Rows L2

/-! ### targets -/
def tgNs (g : Gm) : List Expr → TGs
  | [] => gNil
  | .Name x _ :: r => gCons (gName ((slotOf g.N x).getD 0)) (tgNs g r)
  | _ :: _ => fun _ _ _ _ => False
def tgG (K : PySem.W.Frag) (g : Gm) : Expr → TG
  | .Name x _ => gName ((slotOf g.N x).getD 0)
  | .Tuple es _ _ => gTup K es.length (tgNs g es)
  | _ => fun _ _ _ _ => False
def slots (g : Gm) : Expr → List Nat
  | .Name x _ => [(slotOf g.N x).getD 0]
  | .Tuple es _ _ => es.filterMap fun | .Name x _ => some ((slotOf g.N x).getD 0) | _ => none
  | _ => []
section
variable {pg : Pg} {cl : Str → List W → Sto → R W} {E : Evs} {g : Gm} {Wx : WX} {X : Cx}
theorem loc_ok (C : CxOk pg cl g Wx X) {x : Str} (h : locB g x = true) : L2.Loc X.env.scope x ∧ (X.fn x = true ∨ X.env.scope.names.lookup x = some .local) := by
  unfold locB at h
  unfold L2.Loc
  rw [C.sc, C.fn]
  split at h
  · rename_i e; exact ⟨.inl e, .inr e⟩
  · rename_i e; exact ⟨.inr e, .inl h⟩
  · cases h
theorem pg_nameB (C : CxOk pg cl g Wx X) {x : Str} {p : Pos} (h : nameOk g (.Name x p) = true) : PG X (.Name x p) (gName ((slotOf g.N x).getD 0)) := by
  unfold nameOk at h
  rw [Bool.and_eq_true] at h
  obtain ⟨h1, h2⟩ := h
  obtain ⟨i, hi⟩ := Option.isSome_iff_exists.mp h2
  rw [hi]
  obtain ⟨l1, l2⟩ := loc_ok C h1
  exact pg_name C.nd (by rw [C.N]; exact slotOf_get hi) l1 l2
theorem pgs_names (C : CxOk pg cl g Wx X) : ∀ {es : List Expr}, es.all (nameOk g) = true → PGs X es (tgNs g es) ∧ (assignEach es X.env).length = es.length ∧ (assignEach es X.env).findIdx? (·.1) = none
  | [], _ => ⟨pgs_nil, rfl, rfl⟩
  | e :: es, h => by
    rw [List.all_cons, Bool.and_eq_true] at h
    obtain ⟨h1, h2⟩ := h
    obtain ⟨i1, i2, i3⟩ := pgs_names C h2
    cases e with
    | Name x p =>
      refine ⟨pgs_cons (pg_nameB C h1) i1, ?_, ?_⟩
      · show (assignEach es X.env).length + 1 = es.length + 1
        rw [i2]
      · show List.findIdx? (·.1) ((false, _) :: assignEach es X.env) = none
        rw [List.findIdx?_cons, i3]
        rfl
    | _ => cases h1
theorem pg_tg (C : CxOk pg cl g Wx X) {tg : Expr} (h : tgOk g tg = true) : PG X tg (tgG X.K g tg) := by
  cases tg with
  | Name x p => exact pg_nameB C h
  | Tuple es k p =>
    obtain ⟨i1, i2, i3⟩ := pgs_names C (show es.all (nameOk g) = true from h)
    exact pg_tup C.calm i1 i2 i3
  | _ => cases h

theorem wipe_get (σ : L2.St) : ∀ (vs : List Nat) (i : Nat), (wipe σ vs)[i]? = if i ∈ vs then (if i < σ.length then some none else none) else σ[i]?
  | [], i => by simp [wipe]
  | v :: vs, i => by
    have ih := wipe_get σ vs i
    unfold L2.wipe
    by_cases h : v = i
    · subst h
      rw [if_pos (List.mem_cons_self ..)]
      by_cases hl : v < σ.length
      · rw [if_pos hl, List.getElem?_set_self (by rw [wipe_length]; exact hl)]
      · rw [if_neg hl, List.getElem?_eq_none (by simp [wipe_length]; omega)]
    · rw [List.getElem?_set_ne h, ih]
      have : (i ∈ v :: vs) = (i ∈ vs) := by
        apply propext
        constructor
        · intro q
          rcases List.mem_cons.mp q with q | q
          · exact absurd q.symm h
          · exact q
        · exact List.mem_cons_of_mem _
      simp only [this]
theorem wipe_set {σ : L2.St} {vs : List Nat} {i : Nat} {x : Option V} (h : i ∈ vs) : wipe (σ.set i x) vs = wipe σ vs := by
  apply List.ext_getElem?
  intro j
  rw [wipe_get, wipe_get]
  by_cases hj : j ∈ vs
  · rw [if_pos hj, if_pos hj, List.length_set]
  · rw [if_neg hj, if_neg hj]
    have : i ≠ j := fun e => hj (e ▸ h)
    rw [List.getElem?_set_ne this]
theorem wipe_wipe {σ : L2.St} {vs : List Nat} : wipe (wipe σ vs) vs = wipe σ vs := by
  apply List.ext_getElem?
  intro j
  rw [wipe_get, wipe_get]
  by_cases hj : j ∈ vs
  · rw [if_pos hj, if_pos hj, wipe_length]
  · rw [if_neg hj, if_neg hj]
/-- what binding a target does -/
theorem bindN_ok {K : PySem.W.Frag} {B : Hp} {ρ : List Addr} {σ : L2.St} {env env1 : Env'} {x : Str} {v : V} {w : W} (sl : Sl K B ρ σ env) (r : Rep K B ρ v w) (e : bindN g x w env = some env1) :
    Sl K B ρ (σ.set ((slotOf g.N x).getD 0) (some v)) env1 := by
  unfold bindN at e
  split at e
  · cases q : slotOf g.N x with
    | none => rw [q] at e; cases e
    | some i =>
      rw [q] at e
      cases e
      exact sl.set r i
  · cases e
theorem bindNs_ok {K : PySem.W.Frag} {B H : Hp} {ρ : List Addr} : ∀ {es : List Expr} {ix : List Nat} {xs : List V} {ws : List W} {σ : L2.St} {env env1 : Env'} {P : L2.St → Hp → Prop}, Sl K B ρ σ env → RepL K B ρ xs ws → namesIx g es = some ix → bindIx ix ws env = some env1 →
    (∀ σ2, Sl K B ρ σ2 env1 → (∀ vs, (∀ i ∈ es.filterMap (fun | .Name x _ => some ((slotOf g.N x).getD 0) | _ => none), i ∈ vs) → wipe σ2 vs = wipe σ vs) → P σ2 H) → tgNs g es xs σ H P ∧ es.length = ws.length
  | [], _, _, _, σ, env, env1, P, sl, .nil, e0, e, k => by
    cases e0
    cases e
    exact ⟨⟨rfl, k σ sl fun _ _ => rfl⟩, rfl⟩
  | [], _, _, _, σ, env, env1, P, sl, .cons _ _, e0, h, k => by
    cases e0
    cases h
  | e :: es, ix, _, _, σ, env, env1, P, sl, r, e0, h, k => by
    unfold namesIx at e0
    cases q1 : nameIx g e with
    | none => rw [q1] at e0; cases e0
    | some i =>
      cases q2 : namesIx g es with
      | none => rw [q1, q2] at e0; cases e0
      | some is =>
        rw [q1, q2] at e0
        cases e0
        cases r with
        | nil => cases h
        | @cons v xs w ws r t =>
          cases e with
          | Name x p =>
            have hi : slotOf g.N x = some i := by
              have q3 : (if locB g x = true then slotOf g.N x else none) = some i := q1
              by_cases hl : locB g x = true
              · rw [if_pos hl] at q3
                exact q3
              · rw [if_neg hl] at q3
                cases q3
            have s2 : Sl K B ρ (σ.set ((slotOf g.N x).getD 0) (some v)) (env.set i (some w)) := by
              rw [hi]
              exact sl.set r i
            have ih := bindNs_ok (H := H) (P := P) s2 t q2 h (fun σ2 s2 hw => k σ2 s2 fun vs hv => ?_)
            · exact ⟨⟨v, xs, rfl, ih.1⟩, by rw [List.length_cons, List.length_cons, ih.2]⟩
            · rw [hw vs fun i hi => hv i (List.mem_cons_of_mem _ hi)]
              exact wipe_set (hv _ (List.mem_cons_self ..))
          | _ => cases q1
theorem bindT_ok {K : PySem.W.Frag} {B H : Hp} {ρ : List Addr} {S : Sto} {tg : Expr} {v : V} {w : W} {σ : L2.St} {env env1 : Env'} {P : L2.St → Hp → Prop} (s : SR K ρ S B H) (sl : Sl K B ρ σ env) (r : Rep K B ρ v w) (e : bindT g tg w env = some env1)
    (k : ∀ σ2, Sl K B ρ σ2 env1 → (∀ vs, (∀ i ∈ slots g tg, i ∈ vs) → wipe σ2 vs = wipe σ vs) → P σ2 H) : tgG K g tg v σ H P := by
  cases tg with
  | Name x p => exact k _ (bindN_ok sl r e) fun vs hv => wipe_set (hv _ (List.mem_cons_self ..))
  | Tuple es k' p =>
    unfold bindT at e
    cases q0 : namesIx g es with
    | none => simp only [q0] at e; cases e
    | some ix =>
      simp only [q0] at e
      unfold bindTs at e
      cases q : seqT w with
      | none => rw [q] at e; cases e
      | some ws =>
        rw [q] at e
        obtain ⟨a, xs, rfl, h1, h2⟩ := seqT_ok s r q
        have z := bindNs_ok (H := H) (P := P) sl h2 q0 e k
        exact ⟨a, xs, rfl, h1, by rw [h2.length]; exact z.2.symm, z.1⟩
  | _ => cases e

/-! ### walks -/
/-- what walks the items -/
structure Wk (K : PySem.W.Frag) (B0 : Hp) (ρ0 : List Addr) (J : It) (items : List W) : Prop where
  wk : ∃ (G : Hp → Prop) (Y : Nat → Hp → V → Hp → Prop), Walk J items.length G Y ∧ (∀ ρ S B H, Same B0 B → (∃ m, ρ = ρ0 ++ m) → SR K ρ S B H → G H) ∧
    ∀ i x H H' ρ S B, i < items.length → Same B0 B → (∃ m, ρ = ρ0 ++ m) → SR K ρ S B H → Y i H x H' → ∃ B' w, items[i]? = some w ∧ Ext ρ B H ρ B' H' ∧ SR K ρ S B' H' ∧ Rep K B' ρ x w
theorem wk_list {K : PySem.W.Frag} {B : Hp} {ρ : List Addr} {a : Addr} {xs : List V} {ws : List W} (h : SqL K B a xs) (r : RepL K B ρ xs ws) : Wk K B ρ (Itl K a) ws := by
  refine ⟨⟨fun H => SqL K H a xs, YAt xs, ?_, fun ρ1 S B1 H s p sr => sr.same.seq (s.seq h), fun i x H H' ρ1 S B1 hi s p sr y => ?_⟩⟩
  · rw [← r.length]
    exact walk_list
  · obtain ⟨e1, e2⟩ := y
    subst e1
    obtain ⟨w, h1, h2⟩ := r.get' e2
    exact ⟨B1, w, h1, Ext.refl, sr, h2.mono s p⟩
theorem wk_tup {K : PySem.W.Frag} {B : Hp} {ρ : List Addr} {a : Addr} {xs : List V} {ws : List W} (h : SqT K B a xs) (r : RepL K B ρ xs ws) : Wk K B ρ (Itt K a) ws := by
  refine ⟨⟨fun H => SqT K H a xs, YAt xs, ?_, fun ρ1 S B1 H s p sr => Same.tup sr.same (Same.tup s h), fun i x H H' ρ1 S B1 hi s p sr y => ?_⟩⟩
  · rw [← r.length]
    exact walk_tup
  · obtain ⟨e1, e2⟩ := y
    subst e1
    obtain ⟨w, h1, h2⟩ := r.get' e2
    exact ⟨B1, w, h1, Ext.refl, sr, h2.mono s p⟩
theorem wk_str {K : PySem.W.Frag} {B : Hp} {ρ : List Addr} {z : Str} : Wk K B ρ (Its z) (strW z) := by
  refine ⟨⟨fun _ => True, fun i H v H' => H' = H ∧ ∃ c, z.cps[i]? = some c ∧ v = .str ⟨#[c]⟩, ?_, fun _ _ _ _ _ _ _ => trivial, fun i x H H' ρ1 S B1 hi s p sr y => ?_⟩⟩
  · have e : (strW z).length = z.cps.size := by simp [strW]
    rw [e]
    exact walk_str
  · obtain ⟨e1, c, e2, e3⟩ := y
    subst e1 e3
    refine ⟨B1, .str ⟨#[c]⟩, ?_, Ext.refl, sr, .str _⟩
    unfold strW
    rw [List.getElem?_map, Array.getElem?_toList, e2]
    rfl
theorem wk_rng {K : PySem.W.Frag} {B : Hp} {ρ : List Addr} {lo : Int} {n : Nat} : Wk K B ρ (Itr lo n) ((List.range n).map fun i : Nat => W.int (lo + (i : Int))) := by
  refine ⟨⟨fun _ => True, YFn fun i => .int (lo + i), ?_, fun _ _ _ _ _ _ _ => trivial, fun i x H H' ρ1 S B1 hi s p sr y => ?_⟩⟩
  · have e : ((List.range n).map fun i : Nat => W.int (lo + (i : Int))).length = n := by simp
    rw [e]
    exact walk_range
  · obtain ⟨e1, e2⟩ := y
    subst e1 e2
    have hi' : i < n := by simpa using hi
    exact ⟨B1, .int (lo + (i : Int)), by simp [hi'], Ext.refl, sr, .int _⟩
def wI (X : Cx) (tg iter : Expr) : TI := fun σ H R => ∀ pins s, Inv X pins σ H s → wpAny (model X.prog X.w) X.A (eval iter X.env) (fun v s1 => wpAny (model X.prog X.w) X.A (pyIter v) (PIE X pins σ tg R) X.xe s1) X.xe s
theorem pwI {tg iter : Expr} : PI X tg iter (wI X tg iter) := ⟨fun pins s _ _ _ I h => h pins s I⟩
theorem wI_of {tg iter : Expr} {t : TI} (h : PI X tg iter t) {σ : L2.St} {H : Hp} {R : It → Hp → Prop} (q : t σ H R) : wI X tg iter σ H R := fun pins s I => h.run pins s σ H R I q
/-- any expression that is walked -/
theorem evWalk_ok (hE : EvOk pg cl E) (C : CxOk pg cl g Wx X) {tg e : Expr} {env : Env'} {S : Sto} {σ : L2.St} {ρ : List Addr} {B H : Hp} {R' : It → Hp → Prop} (sl : Sl X.K B ρ σ env) (sr : SR X.K ρ S B H)
    (h : Hold X.K ((E.e g env S e).bind fun w S1 => (match w with
      | .lst ws => .ok ws S1
      | .frl ws => .ok ws S1
      | .tup ws => .ok ws S1
      | .str z => .ok (strW z) S1
      | _ => .bad)) ρ B H (fun items S' ρ' B' H' => ∀ J, Wk X.K B' ρ' J items → R' J H') (ExP X.K X.mg Wx)) : wI X tg e σ H R' := by
  cases q : E.e g env S e with
  | bad => rw [q] at h; exact h.elim
  | exc c fs en S1 =>
    rw [q] at h
    refine wI_of (pi_list pwE) (hE.e C sl sr ?_)
    rw [q]
    exact h
  | ok w S1 =>
    rw [q] at h
    have go : ∀ {t : V → Hp → Prop}, (∀ ρ' B' H' v, Ext ρ B H ρ' B' H' → SR X.K ρ' S1 B' H' → Rep X.K B' ρ' v w → t v H') → wE X e σ H t := fun k => hE.e C sl sr (by
      rw [q]
      exact fun ρ' B' H' x s v r => k ρ' B' H' v x s r)
    cases w with
    | lst ws =>
      refine wI_of (pi_list pwE) (go fun ρ' B' H' v x s r => ?_)
      cases r with
      | lst h1 h2 => exact ⟨_, rfl, ⟨_, SqL.of (s.same _ _ h1)⟩, h ρ' B' H' x s _ (wk_list (SqL.of h1) h2)⟩
    | frl ws =>
      refine wI_of (pi_list pwE) (go fun ρ' B' H' v x s r => ?_)
      cases r with
      | frl h1 h2 => exact ⟨_, rfl, ⟨_, s.same.seq h1⟩, h ρ' B' H' x s _ (wk_list h1 h2)⟩
    | tup ws =>
      refine wI_of (pi_tup pwE) (go fun ρ' B' H' v x s r => ?_)
      cases r with
      | tup h1 h2 => exact ⟨_, rfl, ⟨_, Same.tup s.same h1⟩, h ρ' B' H' x s _ (wk_tup h1 h2)⟩
    | str z =>
      refine wI_of (pi_str pwE) (go fun ρ' B' H' v x s r => ?_)
      cases r
      exact ⟨z, rfl, h ρ' B' H' x s _ wk_str⟩
    | _ => exact h.elim
theorem free_ok (C : CxOk pg cl g Wx X) {f : Str} (h : pg.free.contains f = true) : X.mg f = none := C.free f (List.contains_iff_mem.mp h)
theorem evIter_ok (hE : EvOk pg cl E) (C : CxOk pg cl g Wx X) {tg iter : Expr} {env : Env'} {S : Sto} {σ : L2.St} {ρ : List Addr} {B H : Hp} {R' : It → Hp → Prop} (sl : Sl X.K B ρ σ env) (sr : SR X.K ρ S B H)
    (h : Hold X.K (evIter pg g (fun e S => E.e g env S e) iter S) ρ B H (fun items S' ρ' B' H' => ∀ J, Wk X.K B' ρ' J items → R' J H') (ExP X.K X.mg Wx)) : wI X tg iter σ H R' := by
  unfold evIter at h
  split at h
  · rename_i p a q
    obtain ⟨h1, h2⟩ := h.grd
    rw [Bool.and_eq_true] at h1
    have hs := mapR_stars h2
    refine wI_of (pi_range1 (glo_okB C h1.1) (free_ok C h1.2) pwA (star_no (hs a (by simp)))) ?_
    refine mapR_bind hE C sl sr h2 fun ws S1 ρ1 B1 H1 vs x s1 sl1 r k => ?_
    split at k
    · obtain ⟨k1, k2⟩ := k.grd
      obtain ⟨v, rfl, rv⟩ := one_of r
      cases rv
      have b := of_decide_eq_true k1
      exact ⟨_, rfl, b.1, b.2, k2.here s1 _ wk_rng⟩
    · exact k.elim
  · rename_i p a b q
    obtain ⟨h1, h2⟩ := h.grd
    rw [Bool.and_eq_true] at h1
    have hs := mapR_stars h2
    have sb : starEach [b] X.env = [(false, eval b X.env)] := star_no (hs b (by simp))
    refine wI_of (pi_range2 (glo_okB C h1.1) (free_ok C h1.2) pwA (by rw [star_no (hs a (by simp)), sb]) sb) ?_
    refine mapR_bind hE C sl sr h2 fun ws S1 ρ1 B1 H1 vs x s1 sl1 r k => ?_
    split at k
    · obtain ⟨k1, k2⟩ := k.grd
      obtain ⟨v, v', rfl, rv, rv'⟩ := two_of r
      cases rv; cases rv'
      have b := of_decide_eq_true k1
      exact ⟨_, _, rfl, b, k2.here s1 _ wk_rng⟩
    · exact k.elim
  · rename_i e he1 he2
    obtain ⟨h1, h2⟩ := h.grd
    exact evWalk_ok hE C sl sr h2
end
end Mi

set_option Elab.async false
set_option linter.all false
set_option maxRecDepth 100000
set_option maxHeartbeats 4000000
/-! Mi7: loops, comprehensions, one step deeper. -/
namespace Mi
open PySem PySem.Spec PyProof.Rows L2
section
variable {K : PySem.W.Frag}
theorem Hold.bind0 {α β : Type} {r : R α} {f : α → Sto → R β} {ρ : List Addr} {B H : Hp} {okb : β → Sto → List Addr → Hp → Hp → Prop} {ex : Str → List (Str × W) → Env' → List Addr → Hp → Hp → Prop} (h : Hold K (r.bind f) ρ B H okb ex) :
    Hold K r ρ B H (fun a S _ _ _ => Hold K (f a S) ρ B H okb ex) ex := by
  cases r with
  | ok a S => exact fun _ _ _ _ _ => h
  | exc c fs en S => exact h
  | bad => exact h
theorem SR.notin {ρ : List Addr} {S : Sto} {B H : Hp} (s : SR K ρ S B H) {a : Addr} (h : H a = none) : a ∉ ρ := fun hm => by
  obtain ⟨i, hi⟩ := List.getElem?_of_mem hm
  have hl : i < S.length := by rw [← s.len]; exact (List.getElem?_eq_some_iff.mp hi).1
  obtain ⟨_, u, hu, _⟩ := s.cell i a S[i] hi (by simp [hl])
  rw [h] at hu
  cases hu
/-- what is not held changes -/
theorem SR.side {ρ : List Addr} {S : Sto} {B H : Hp} {a : Addr} {o : HO} (s : SR K ρ S B H) (hb : B a = none) (hn : a ∉ ρ) : SR K ρ S B (upd H a o) := by
  refine ⟨fun c u q => ?_, s.len, s.nd, fun i c so e1 e2 => ?_⟩
  · rw [upd_ne (ne_of_none q hb)]
    exact s.same c u q
  · obtain ⟨n, u, hu, r⟩ := s.cell i c so e1 e2
    have hc : c ≠ a := fun e => hn (by rw [← e]; exact List.mem_of_getElem? e1)
    exact ⟨n, u, by rw [upd_ne hc]; exact hu, r⟩
theorem Ext.side {ρ ρ1 : List Addr} {B B1 H H1 : Hp} {a : Addr} {o : HO} (e : Ext ρ B H ρ1 B1 H1) (h : H a = none) : Ext ρ B H ρ1 B1 (upd H1 a o) := by
  refine ⟨e.b, e.p, fun c u q hn => ?_, fun c u q => ?_, e.new⟩
  · rw [upd_ne (ne_of_none q h)]
    exact e.frame c u q hn
  · rw [upd_ne (ne_of_none q h)]
    exact e.there c u q
/-- what was not held is kept, never to change -/
theorem SR.keep {ρ : List Addr} {S : Sto} {B H : Hp} {a : Addr} {o : HO} (s : SR K ρ S B H) (hb : B a = none) (hn : a ∉ ρ) (ha : H a = some o) : SR K ρ S (upd B a o) H := by
  have sm : Same B (upd B a o) := fun c u q => by
    rw [upd_ne (ne_of_none q hb)]
    exact q
  refine ⟨fun c u q => ?_, s.len, s.nd, fun i c so e1 e2 => ?_⟩
  · by_cases hc : c = a
    · subst hc
      rw [upd_same] at q
      cases q
      exact ha
    · rw [upd_ne hc] at q
      exact s.same c u q
  · obtain ⟨n, u, hu, r⟩ := s.cell i c so e1 e2
    have hc : c ≠ a := fun e => hn (by rw [← e]; exact List.mem_of_getElem? e1)
    exact ⟨by rw [upd_ne hc]; exact n, u, hu, r.mono sm ⟨[], by simp⟩⟩
theorem Ext.keep {ρ ρ1 : List Addr} {B B1 H H1 : Hp} {a : Addr} {o : HO} (e : Ext ρ B H ρ1 B1 H1) (h : H a = none) (hb : B1 a = none) : Ext ρ B H ρ1 (upd B1 a o) H1 := by
  refine ⟨fun c u q => ?_, e.p, e.frame, e.there, fun c u q n => ?_⟩
  · have z := e.b c u q
    rw [upd_ne (ne_of_none z hb)]
    exact z
  · rw [upd_ne (ne_of_none q h)]
    exact e.new c u q n
end
section
variable {pg : Pg} {cl : Str → List W → Sto → R W} {E : Evs} {g : Gm} {Wx : WX} {X : Cx}

/-! ### for -/
theorem drop_at {α : Type} {l : List α} {i : Nat} {x : α} (h : l[i]? = some x) : l.drop i = x :: l.drop (i + 1) := by
  obtain ⟨hi, e⟩ := List.getElem?_eq_some_iff.mp h
  rw [List.drop_eq_getElem_cons hi, e]
theorem forR_ok {K : PySem.W.Frag} {body : Env' → Sto → R Out'} {tg : Expr} {items : List W} {ex : Str → List (Str × W) → Env' → List Addr → Hp → Hp → Prop} {J : It} {tb : TS} {D : Ends} {σ : L2.St} {H : Hp} {env : Env'} {S : Sto} {ρ : List Addr} {B : Hp}
    (hb : ∀ {env : Env'} {S : Sto} {σ : L2.St} {ρ : List Addr} {B H : Hp} {D : Ends}, Sl K B ρ σ env → SR K ρ S B H → Hold K (body env S) ρ B H (okS K D) ex → tb D σ H)
    (wk : Wk K B ρ J items) (sl : Sl K B ρ σ env) (sr : SR K ρ S B H) (h : Hold K (forR body (bindT g tg) items env S) ρ B H (okS K D) ex) :
    ∃ W : Nat → Nat → L2.St → Hp → Prop, (∃ m, W 0 m σ H) ∧ ∀ i m σ H, W i m σ H →
      (J.stop i H ∧ D.nx σ H) ∨ (J.go i H ∧ ∃ N : L2.St → Hp → Prop, (∀ σ' H', N σ' H' → ∃ m', m' < m ∧ W (i + 1) m' σ' H') ∧ ∀ x H', J.yld i H x H' → tgG K g tg x σ H' fun σ2 H2 => tb { D with nx := N, ct := N, bk := D.nx } σ2 H2) := by
  obtain ⟨G, Y, w, hG, hY⟩ := wk.wk
  refine for_it w (fun i σ' H' => ∃ env S ρ1 B1, Same B B1 ∧ (∃ m, ρ1 = ρ ++ m) ∧ Sl K B1 ρ1 σ' env ∧ SR K ρ1 S B1 H' ∧ Hold K (forR body (bindT g tg) (items.drop i) env S) ρ1 B1 H' (okS K D) ex) ?_ ?_ ?_ ?_
  · exact ⟨env, S, ρ, B, Same.refl B, ⟨[], by simp⟩, sl, sr, h⟩
  · rintro i σ' H' _ ⟨env, S, ρ1, B1, s, p, _, sr, _⟩
    exact hG ρ1 S B1 H' s p sr
  · rintro i x σ' H1 H2 hi ⟨env, S, ρ1, B1, s, p, sl, sr, h⟩ y
    obtain ⟨B2, wi, e1, e2, s2, rx⟩ := hY i x H1 H2 ρ1 S B1 hi s p sr y
    have h2 := h.ext e2
    rw [drop_at e1] at h2
    unfold forR at h2
    cases q : bindT g tg wi env with
    | none => rw [q] at h2; exact h2.elim
    | some env1 =>
      rw [q] at h2
      refine bindT_ok s2 (sl.mono e2) rx q fun σ2 sl2 _ => ?_
      refine hb sl2 s2 (h2.bind.imp (fun o S3 ρ3 B3 H3 x3 s3 k => ?_) fun _ _ _ _ _ _ z => z)
      have pp : Same B B3 ∧ ∃ m, ρ3 = ρ ++ m := by
        obtain ⟨m1, p1⟩ := p
        obtain ⟨m2, p2⟩ := e2.pre
        obtain ⟨m3, p3⟩ := x3.pre
        exact ⟨(s.trans e2.b).trans x3.b, ⟨m1 ++ m2 ++ m3, by rw [p3, p2, p1]; simp⟩⟩
      cases o with
      | next env2 => exact fun σ3 sl3 => ⟨env2, S3, ρ3, B3, pp.1, pp.2, sl3, s3, k⟩
      | cont env2 => exact fun σ3 sl3 => ⟨env2, S3, ρ3, B3, pp.1, pp.2, sl3, s3, k⟩
      | brk env2 => exact fun σ3 sl3 => k.here s3 σ3 sl3
      | ret v => exact fun u ru => k.here s3 u ru
  · rintro σ' H' ⟨env, S, ρ1, B1, s, p, sl, sr, h⟩
    rw [List.drop_length] at h
    exact h.here sr σ' sl

/-! ### while -/
theorem whileR_ok {K : PySem.W.Frag} {test : Env' → Sto → R Bool} {body : Env' → Sto → R Out'} {ex : Str → List (Str × W) → Env' → List Addr → Hp → Hp → Prop} {tt : TT} {tb : TS} {D : Ends} {σ : L2.St} {H : Hp} {env : Env'} {S : Sto} {ρ : List Addr} {B : Hp} {m : Nat}
    (ht : ∀ {env : Env'} {S : Sto} {σ : L2.St} {ρ : List Addr} {B H : Hp} {Q : Bool → Hp → Prop}, Sl K B ρ σ env → SR K ρ S B H → Hold K (test env S) ρ B H (okT Q) ex → tt σ H Q)
    (hb : ∀ {env : Env'} {S : Sto} {σ : L2.St} {ρ : List Addr} {B H : Hp} {D : Ends}, Sl K B ρ σ env → SR K ρ S B H → Hold K (body env S) ρ B H (okS K D) ex → tb D σ H)
    (sl : Sl K B ρ σ env) (sr : SR K ρ S B H) (h : Hold K (whileR test body m env S) ρ B H (okS K D) ex) : tWhile tt tb D σ H := by
  refine ⟨fun m σ' H' => ∃ env S ρ1 B1, Sl K B1 ρ1 σ' env ∧ SR K ρ1 S B1 H' ∧ Hold K (whileR test body m env S) ρ1 B1 H' (okS K D) ex, ⟨m, env, S, ρ, B, sl, sr, h⟩, ?_⟩
  rintro m σ' H' ⟨env, S, ρ1, B1, sl, sr, h⟩
  cases m with
  | zero => exact h.elim
  | succ m =>
    unfold whileR at h
    refine ht sl sr (h.bind.imp (fun c S2 ρ2 B2 H2 x2 s2 k => ?_) fun _ _ _ _ _ _ z => z)
    cases c with
    | false =>
      exact (show D.nx σ' H2 from k.here s2 σ' (sl.mono x2))
    | true =>
      refine ⟨fun σ3 H3 => ∃ env S ρ1 B1, Sl K B1 ρ1 σ3 env ∧ SR K ρ1 S B1 H3 ∧ Hold K (whileR test body m env S) ρ1 B1 H3 (okS K D) ex, fun σ3 H3 n => ⟨m, Nat.lt_succ_self m, n⟩, ?_⟩
      refine hb (sl.mono x2) s2 (k.bind.imp (fun o S3 ρ3 B3 H3 x3 s3 k => ?_) fun _ _ _ _ _ _ z => z)
      cases o with
      | next env2 => exact fun σ3 sl3 => ⟨env2, S3, ρ3, B3, sl3, s3, k⟩
      | cont env2 => exact fun σ3 sl3 => ⟨env2, S3, ρ3, B3, sl3, s3, k⟩
      | brk env2 => exact fun σ3 sl3 => k.here s3 σ3 sl3
      | ret v => exact fun u ru => k.here s3 u ru

/-! ### comprehensions -/
def wEb (X : Cx) (scope : Scope) (e : Expr) : TE := fun σ H Q => ∀ (s0 : Shared) (H0 : Hp) (C : Addr) (cl : List (Str × Addr)) (fp : List Addr), wE (X.blk s0 H0 scope (compEnvC scope cl C X.env) fp) e σ H Q
def wTb (X : Cx) (scope : Scope) (e : Expr) : TT := fun σ H Q => ∀ (s0 : Shared) (H0 : Hp) (C : Addr) (cl : List (Str × Addr)) (fp : List Addr), wT (X.blk s0 H0 scope (compEnvC scope cl C X.env) fp) e σ H Q
theorem cx_blk (C : CxOk pg cl g Wx X) (scope : Scope) (s0 : Shared) (H0 : Hp) (Ca : Addr) (cls : List (Str × Addr)) (fp : List Addr) : CxOk pg cl (blkG g scope) (fun _ _ _ _ => False) (X.blk s0 H0 scope (compEnvC scope cls Ca X.env) fp) where
  N := C.N
  nd := C.nd
  sc := by
    show relS scope X.env.scope = relS scope g.sc
    rw [C.sc]
  fn := rfl
  calm := C.calm
  un := C.un
  pass := PassesOwn.never
  tk := takes0
  cst := C.cst
  fns := C.fns
  free := C.free
/-- what a turn of a comprehension leaves -/
def turnP (Dl : Addr) (PN : Hp → Prop) : Option V → Hp → Prop
  | none, H' => PN H'
  | some y, H' => ∃ acc, H' Dl = some (.lst acc) ∧ acc.length < sizeLine ∧ PN (upd H' Dl (.lst (acc ++ [y])))
theorem lcR_ok {K : PySem.W.Frag} {step : W → Sto → R (Option W)} {tg : Expr} {items : List W} {ex : Str → List (Str × W) → Env' → List Addr → Hp → Hp → Prop} {J : It} {tt : TT} {te : TE} {σ : L2.St} {H : Hp} {env : Env'} {S : Sto} {ρ : List Addr} {B : Hp} {vs : List Nat} {Q : VK} {Dl : Addr}
    (hv : ∀ i ∈ slots g tg, i ∈ vs)
    (hs : ∀ {w : W} {S : Sto} {σ : L2.St} {ρ : List Addr} {B H : Hp} {P : Option V → Hp → Prop}, Sl K B ρ σ env → SR K ρ S B H → ∀ {v}, Rep K B ρ v w → Hold K (step w S) ρ B H (fun o S' ρ' B' H' => match o with
        | none => P none H'
        | some y => ∀ v', Rep K B' ρ' v' y → P (some v') H') ex → tgG K g tg v (wipe σ vs) H fun σ2 H2 => wipe σ2 vs = wipe σ vs ∧ tt σ2 H2 fun b H3 => if b = true then te σ2 H3 fun y H4 => P (some y) H4 else P none H3)
    (wk : Wk K B ρ J items) (sl : Sl K B ρ σ env) (sr : SR K ρ S B H) (hD : H Dl = none) (h : Hold K (lcR step items [] S) ρ B H (okE K Q) ex) :
    ∃ W : Nat → Nat → Hp → Prop, (∃ m, W 0 m (upd H Dl (.lst []))) ∧ ∀ i m H, W i m H →
      (J.stop i H ∧ Q (.ref Dl) H) ∨ (J.go i H ∧ ∃ Nx : Hp → Prop, (∀ H', Nx H' → ∃ m', m' < m ∧ W (i + 1) m' H') ∧ ∀ x H', J.yld i H x H' → tgG K g tg x (wipe σ vs) H' fun σ2 H2 => wipe σ2 vs = wipe σ vs ∧ tt σ2 H2 fun b H3 =>
        if b = true then te σ2 H3 fun y H4 => ∃ acc, H4 Dl = some (.lst acc) ∧ acc.length < sizeLine ∧ Nx (upd H4 Dl (.lst (acc ++ [y]))) else Nx H3) := by
  obtain ⟨G, Y, w, hG, hY⟩ := wk.wk
  refine lc_it w (fun i H' => ∃ S ρ1 B1 acc accV, Ext ρ B H ρ1 B1 H' ∧ SR K ρ1 S B1 H' ∧ H' Dl = some (.lst accV) ∧ Dl ∉ ρ1 ∧ B1 Dl = none ∧ RepL K B1 ρ1 accV acc ∧ Hold K (lcR step (items.drop i) acc S) ρ B H (okE K Q) ex) ?_ ?_ ?_ ?_
  · exact ⟨S, ρ, B, [], [], Ext.refl.side hD, sr.junk hD, upd_same, sr.notin hD, sr.same.free hD, .nil, h⟩
  · rintro i H' _ ⟨S, ρ1, B1, acc, accV, x, s, _⟩
    exact hG ρ1 S B1 H' x.b x.pre s
  · rintro i x H1 H2 hi ⟨S, ρ1, B1, acc, accV, x1, s1, hd, hn, hb, ra, h⟩ y
    obtain ⟨B2, wi, e1, e2, s2, rx⟩ := hY i x H1 H2 ρ1 S B1 hi x1.b x1.pre s1 y
    rw [drop_at e1] at h
    unfold lcR at h
    have x2 := x1.trans e2
    have hd2 := e2.frame _ _ hd hn
    have hb2 := e2.new _ _ hd hb
    have hn2 : Dl ∉ ρ := sr.notin hD
    have key := (h.bind0).ext x2
    refine hs (P := turnP Dl _) (sl.mono x2) s2 rx (key.imp (fun o S3 ρ3 B3 H3 x3 s3 k => ?_) fun _ _ _ _ _ _ z => z)
    have hnr : Dl ∉ ρ3 := by
      obtain ⟨m3, p3, q3⟩ := x3.p
      intro hm
      rw [p3] at hm
      rcases List.mem_append.mp hm with hm | hm
      · exact hn hm
      · rw [q3 _ hm] at hd2; cases hd2
    have hd3 := x3.frame _ _ hd2 hn
    have hb3 := x3.new _ _ hd2 hb2
    have ra3 := ra.mono (e2.trans x3).b (e2.trans x3).pre
    cases o with
    | none => exact ⟨S3, ρ3, B3, acc, accV, x2.trans x3, s3, hd3, hnr, hb3, ra3, k⟩
    | some y =>
      intro v' rv
      obtain ⟨k1, k2⟩ := k.grd
      refine ⟨accV, hd3, ?_, S3, ρ3, B3, acc ++ [y], accV ++ [v'], (x2.trans x3).side hD, s3.side hb3 hnr, upd_same, hnr, hb3, ra3.append (.cons rv .nil), k2⟩
      rw [ra3.length]
      exact small_lt k1
  · rintro H' ⟨S, ρ1, B1, acc, accV, x, s, hd, hn, hb, ra, h⟩
    rw [List.drop_length] at h
    refine h ρ1 (upd B1 Dl (.lst accV)) H' (x.keep hD hb) (s.keep hb hn hd) _ (.lst upd_same (ra.mono (fun c u q => ?_) ⟨[], by simp⟩))
    rw [upd_ne (ne_of_none q hb)]
    exact q
end
end Mi

set_option Elab.async false
set_option linter.all false
set_option maxRecDepth 100000
set_option maxHeartbeats 4000000
/-! Mi8: one step deeper is right. -/
namespace Mi
open PySem PySem.Spec PyProof.Rows L2
section
variable {pg : Pg} {cl : Str → List W → Sto → R W} {E : Evs} {g : Gm} {Wx : WX} {X : Cx}
def tPt (X : Cx) : Option Expr → TO
  | none => tNoPart
  | some e => tPart (wE X e)
theorem poT {o : Option Expr} : PO X o (tPt X o) := by
  cases o with
  | none => exact po_none
  | some e => exact po_some pwE
theorem partR_ok (hE : EvOk pg cl E) (C : CxOk pg cl g Wx X) {β : Type} {o : Option Expr} {env : Env'} {S : Sto} {σ : L2.St} {ρ : List Addr} {B H : Hp} {Q : Option Int → Hp → Prop} {f : Option Int → Sto → R β} {ok : β → Sto → List Addr → Hp → Hp → Prop} (sl : Sl X.K B ρ σ env) (sr : SR X.K ρ S B H)
    (hd : Hold X.K ((stepE.partR E g env S o).bind f) ρ B H ok (ExP X.K X.mg Wx)) (k : ∀ w S' ρ' B' H', Ext ρ B H ρ' B' H' → SR X.K ρ' S' B' H' → Sl X.K B' ρ' σ env → Hold X.K (f w S') ρ' B' H' ok (ExP X.K X.mg Wx) → Q w H') : tPt X o σ H Q := by
  cases o with
  | none => exact k none S ρ B H Ext.refl sr sl hd
  | some e =>
    unfold stepE.partR at hd
    refine hE.e' C sl sr hd.bind fun w S1 ρ1 B1 H1 v x s1 sl1 r q => ?_
    cases w with
    | int i =>
      cases r
      exact ⟨i, rfl, k (some i) S1 ρ1 B1 H1 x s1 sl1 (q.here s1)⟩
    | _ => exact q.elim
theorem plain_ix {i : Expr} (h : plainIx i = true) : PlainIx i := by
  intro o k
  cases i <;> first | rfl | cases h
theorem not_set {i : Expr} {env : Env} (h : notSet i = true) : ∀ x, foldedSetIterable i env x = pure x := by
  intro x
  cases i <;> first | rfl | cases h
theorem names_slots {g : Gm} {N : List Str} (hN : g.N = N) {tg : Expr} (h : tgOk g tg = true) : ∀ i ∈ slots g tg, i ∈ (ownOf N tg).map (·.2) := by
  subst hN
  have one : ∀ {x : Str} {p : Pos}, nameOk g (.Name x p) = true → ∃ j, slotOf g.N x = some j := fun h => by
    unfold nameOk at h
    rw [Bool.and_eq_true] at h
    exact Option.isSome_iff_exists.mp h.2
  intro i hi
  cases tg with
  | Name x p =>
    obtain ⟨j, hj⟩ := one (p := p) h
    have e : i = j := by
      have z := List.mem_singleton.mp (show i ∈ [(slotOf g.N x).getD 0] from hi)
      rw [hj] at z
      exact z
    subst e
    unfold ownOf tgNames
    simp [hj]
  | Tuple es k p =>
    obtain ⟨e, he, hi⟩ := List.mem_filterMap.mp (show i ∈ es.filterMap (fun | .Name x _ => some ((slotOf g.N x).getD 0) | _ => none) from hi)
    cases e with
    | Name x q =>
      have z := List.all_eq_true.mp (show es.all (nameOk g) = true from h) _ he
      obtain ⟨j, hj⟩ := one (p := q) z
      have e : i = j := by
        have y : (slotOf g.N x).getD 0 = i := Option.some.inj hi
        rw [hj] at y
        exact y.symm
      subst e
      refine List.mem_map.mpr ⟨(x, i), ?_, rfl⟩
      unfold ownOf tgNames
      refine List.mem_filterMap.mpr ⟨x, List.mem_filterMap.mpr ⟨_, he, rfl⟩, by rw [hj]; rfl⟩
    | _ => cases hi
  | _ => cases hi
theorem Hold.noExc {K : PySem.W.Frag} {α : Type} {r : R α} {ρ : List Addr} {B H : Hp} {ok : α → Sto → List Addr → Hp → Hp → Prop} {ex ex' : Str → List (Str × W) → Env' → List Addr → Hp → Hp → Prop} (h : Hold K (noExc r) ρ B H ok ex) : Hold K r ρ B H ok ex' := by
  cases r with
  | ok a S => exact h
  | exc c fs e S => exact h.elim
  | bad => exact h
def ttOf (X : Cx) (scope : Scope) : List Expr → TT
  | [] => tYes
  | c :: _ => wTb X scope c
theorem pts_of {scope : Scope} {ifs : List Expr} (h : ifs.length ≤ 1) (s0 : Shared) (H0 : Hp) (Ca : Addr) (cs : List (Str × Addr)) (fp : List Addr) : PTs (X.blk s0 H0 scope (compEnvC scope cs Ca X.env) fp) ifs (ttOf X scope ifs) := by
  cases ifs with
  | nil => exact pts_nil
  | cons c r =>
    cases r with
    | nil => exact pts_one ⟨fun pins s σ' H' Q' I q => q s0 H0 Ca cs fp pins s I⟩
    | cons _ _ => simp at h
/-- a comprehension, its parts -/
theorem lcE_ok (hE : EvOk pg cl E) (C : CxOk pg cl g Wx X) {elt tg iter : Expr} {ifs : List Expr} {scope : Scope} {pos : Pos} {env : Env'} {S : Sto} {σ : L2.St} {ρ : List Addr} {B H : Hp} {Q : VK} (sl : Sl X.K B ρ σ env) (sr : SR X.K ρ S B H)
    (h : Hold X.K (stepE pg cl E g env S (.ListComp elt [⟨tg, iter, ifs, 0⟩] scope pos)) ρ B H (okE X.K Q) (ExP X.K X.mg Wx)) :
    tLc (wI X tg iter) (tgG X.K (blkG g scope) tg) (ttOf X scope ifs) (wEb X scope elt) ((ownOf g.N tg).map (·.2)) σ H Q ∧ notSet iter = true ∧ BlkOk X.N X.env.scope scope (ownOf g.N tg) ∧ tgOk (blkG g scope) tg = true ∧ ifs.length ≤ 1 := by
  unfold stepE at h
  obtain ⟨h1, h2⟩ := h.grd
  rw [Bool.and_eq_true, Bool.and_eq_true, Bool.and_eq_true] at h1
  obtain ⟨⟨⟨g1, g2⟩, g3⟩, g4⟩ := h1
  have gm : (blkG g scope).N = g.N := rfl
  have bk : BlkOk X.N X.env.scope scope (ownOf g.N tg) := by
    rw [C.N, C.sc]
    exact blkOk_by g2
  refine ⟨?_, g1, bk, g3, of_decide_eq_true g4⟩
  refine evIter_ok hE C sl sr (h2.bind.imp (fun items S1 ρ1 B1 H1 x1 s1 k J wk D hD => ?_) fun _ _ _ _ _ _ z => z)
  refine lcR_ok (names_slots gm g3) (fun {w S σ' ρ' B' H' P} sl' sr' v rv hk => ?_) wk (sl.mono x1) s1 hD k
  cases q : bindT (blkG g scope) tg w (wipeE env ((ownOf g.N tg).map (·.2))) with
  | none => rw [q] at hk; exact hk.elim
  | some env1 =>
    rw [q] at hk
    refine bindT_ok sr' (sl'.wipe _) rv q fun σ2 sl2 hw => ⟨?_, ?_⟩
    · rw [hw _ (names_slots gm g3)]
      exact wipe_wipe
    · cases ifs with
      | nil =>
        exact (show wEb X scope elt σ2 H' _ from fun s0 H0 Ca cs fp => hE.e (cx_blk C scope s0 H0 Ca cs fp) sl2 sr' (hk.bind.noExc.imp (fun y S2 ρ2 B2 H2 x2 s2 k2 v' rv' => k2.here s2 v' rv') fun _ _ _ _ _ _ z => z))
      | cons c rest =>
        cases rest with
        | cons _ _ =>
          have z := of_decide_eq_true g4
          simp at z
        | nil =>
          refine (show wTb X scope c σ2 H' _ from fun s0 H0 Ca cs fp => hE.t (cx_blk C scope s0 H0 Ca cs fp) sl2 sr' (hk.bind.noExc.imp (fun b S2 ρ2 B2 H2 x2 s2 k2 => ?_) fun _ _ _ _ _ _ z => z))
          cases b with
          | false => exact (show P none H2 from k2.here s2)
          | true => exact (show wEb X scope elt σ2 H2 _ from fun s0 H0 Ca cs fp => hE.e (cx_blk C scope s0 H0 Ca cs fp) (sl2.mono x2) s2 (k2.bind.noExc.imp (fun y S2 ρ2 B2 H2 x2 s2 k2 v' rv' => k2.here s2 v' rv') fun _ _ _ _ _ _ z => z))
theorem stepE_ok (hE : EvOk pg cl E) (C : CxOk pg cl g Wx X) {e : Expr} {env : Env'} {S : Sto} {σ : L2.St} {ρ : List Addr} {B H : Hp} {Q : VK} (sl : Sl X.K B ρ σ env) (sr : SR X.K ρ S B H)
    (h : Hold X.K (stepE pg cl E g env S e) ρ B H (okE X.K Q) (ExP X.K X.mg Wx)) : wE X e σ H Q := by
  unfold stepE at h
  split at h
  · exact nameE_ok C sl sr h
  · split at h
    · exact wE_of pe_int (h.here sr _ (.int _))
    · exact wE_of pe_bl (h.here sr _ (.bl _))
    · exact wE_of pe_non (h.here sr _ .non)
    · exact wE_of pe_str (h.here sr _ (.str _))
    · exact h.elim
  · refine wE_of (pe_tup pwA) (mapR_bind hE C sl sr h fun ws S1 ρ1 B1 H1 vs x s1 sl1 r k => ?_)
    obtain ⟨k1, k2⟩ := k.grd
    exact ⟨by rw [r.length]; exact small_line k1, fun p hp => k2.val.newT s1 r hp⟩
  · refine wE_of (pe_lst pwA) (mapR_bind hE C sl sr h fun ws S1 ρ1 B1 H1 vs x s1 sl1 r k => ?_)
    obtain ⟨k1, k2⟩ := k.grd
    exact ⟨by rw [r.length]; exact small_line k1, fun p hp => k2.val.newL s1 r hp⟩
  · refine wE_of (pe_op opW_r pwE pwE) (hE.e' C sl sr h fun w S1 ρ1 B1 H1 v x1 s1 sl1 r1 k1 => hE.e' C sl1 s1 k1 fun w2 S2 ρ2 B2 H2 v2 x2 s2 sl2 r2 k2 => ?_)
    obtain ⟨c, e, k3⟩ := k2.lift
    exact binop_ok s2 (r1.mono x2.b x2.pre) r2 e (fun ρ' B' H' v' x s r => k3 ρ' B' H' x s v' r)
  · refine wE_of (pe_not pwE) (hE.e' C sl sr h fun w S1 ρ1 B1 H1 v x1 s1 sl1 r1 k1 => ?_)
    split at k1
    · cases r1
      exact ⟨_, rfl, k1.here s1 _ (.bl _)⟩
    · exact k1.elim
  · refine wE_of (pe_un un_neg pwE) (hE.e' C sl sr h fun w S1 ρ1 B1 H1 v x1 s1 sl1 r1 k1 => ?_)
    split at k1
    · cases r1
      exact ⟨_, rfl, k1.here s1 _ (.int _)⟩
    · exact k1.elim
  · exact valR_ok hE C sl sr h
  · obtain ⟨h1, h2⟩ := h.grd
    refine wE_of (pe_cmpR opW_r pwE pwE (by simpa using h1)) (hE.e' C sl sr h2 fun w S1 ρ1 B1 H1 v x1 s1 sl1 r1 k1 => hE.e' C sl1 s1 k1 fun w2 S2 ρ2 B2 H2 v2 x2 s2 sl2 r2 k2 => ?_)
    obtain ⟨c, e, k3⟩ := k2.bind.lift
    exact cmpop_ok C.un s2 (r1.mono x2.b x2.pre) r2 e (fun ρ' B' H' v' x s r => (k3 ρ' B' H' x s).here s v' r)
  · obtain ⟨h1, h2⟩ := h.grd
    refine wE_of (pe_chain opW_r opW_r pwE pwE pwE (by simpa using h1)) (hE.e' C sl sr h2 fun w S1 ρ1 B1 H1 v x1 s1 sl1 r1 k1 => hE.e' C sl1 s1 k1 fun w2 S2 ρ2 B2 H2 v2 x2 s2 sl2 r2 k2 => ?_)
    obtain ⟨c, e, k3⟩ := k2.bind.lift
    refine cmpop_ok C.un s2 (r1.mono x2.b x2.pre) r2 e (fun ρ3 B3 H3 v3 x3 s3 r3 => ?_)
    cases r3
    have k4 := k3 ρ3 B3 H3 x3 s3
    refine ⟨c, rfl, ?_⟩
    cases c with
    | false => exact (show Q (.bl false) H3 from k4.here s3 _ (.bl _))
    | true =>
      refine (show wE X _ σ H3 _ from hE.e' C (sl2.mono x3) s3 k4 fun w5 S5 ρ5 B5 H5 v5 x5 s5 sl5 r5 k5 => ?_)
      obtain ⟨c', e', k6⟩ := k5.bind.lift
      exact cmpop_ok C.un s5 ((r2.mono x3.b x3.pre).mono x5.b x5.pre) r5 e' (fun ρ' B' H' v' x s r => (k6 ρ' B' H' x s).here s v' r)
  · refine wE_of (pe_ifExp pwT pwE pwE) (hE.t' C sl sr h fun c S1 ρ1 B1 H1 x1 s1 sl1 k1 => ?_)
    cases c with
    | true => exact (show wE X _ σ H1 Q from hE.e C sl1 s1 k1)
    | false => exact (show wE X _ σ H1 Q from hE.e C sl1 s1 k1)
  · refine wE_of (pe_slice slW_r pwE poT poT) (hE.e' C sl sr h fun w S1 ρ1 B1 H1 v x1 s1 sl1 r1 k1 => partR_ok hE C sl1 s1 k1 fun lo S2 ρ2 B2 H2 x2 s2 sl2 k2 => partR_ok hE C sl2 s2 k2 fun hi S3 ρ3 B3 H3 x3 s3 sl3 k3 => ?_)
    obtain ⟨c, e, k4⟩ := k3.lift
    exact slS_ok s3 ((r1.mono x2.b x2.pre).mono x3.b x3.pre) e (fun ρ' B' H' v' x s r => k4 ρ' B' H' x s v' r)
  · obtain ⟨h1, h2⟩ := h.grd
    refine wE_of (pe_ix ixW_r pwE pwE (plain_ix h1)) (hE.e' C sl sr h2 fun w S1 ρ1 B1 H1 v x1 s1 sl1 r1 k1 => hE.e' C sl1 s1 k1 fun w2 S2 ρ2 B2 H2 v2 x2 s2 sl2 r2 k2 => ?_)
    obtain ⟨c, e, k3⟩ := k2.lift
    exact ixS_ok s2 (r1.mono x2.b x2.pre) r2 e (fun ρ' B' H' v' x s r => k3 ρ' B' H' x s v' r)
  · rename_i elt tg iter ifs scope pos
    obtain ⟨q, g1, bk, g3, g4⟩ := lcE_ok hE C (pos := pos) sl sr (show Hold X.K (stepE pg cl E g env S (.ListComp elt [⟨tg, iter, ifs, 0⟩] scope pos)) ρ B H (okE X.K Q) (ExP X.K X.mg Wx) from h)
    exact wE_of (pe_lc C.calm C.nd pwI bk (fun s0 H0 Ca cs fp => pg_tg (cx_blk C scope s0 H0 Ca cs fp) g3) (pts_of g4) (fun s0 H0 Ca cs fp => ⟨fun pins s σ' H' Q' I q => q s0 H0 Ca cs fp pins s I⟩) (not_set g1)) q
  · rename_i f p a as pos
    obtain ⟨h1, h2⟩ := h.grd
    rw [Bool.and_eq_true, Bool.and_eq_true] at h1
    obtain ⟨⟨g1, g2⟩, g3⟩ := h1
    have hs := mapR_stars h2
    cases q : pg.ar f with
    | some n =>
      obtain ⟨fa, fd, k, ps, hn, F, m, kp, b, hr⟩ := C.fns f n q
      refine wE_of (pe_callS (E := fun σ => WE Wx σ) F hr (glo_okB C g1) m kp b (fun σ => passAt C.tk σ) pwA (odd_no g2).1 (star_no (hs a (List.mem_cons_self ..))) (stars_no fun e' he => hs e' (List.mem_cons_of_mem _ he))) ?_
      refine (show wA X (a :: as) σ H _ from mapR_bind hE C sl sr h2 fun ws S1 ρ1 B1 H1 vs x1 s1 sl1 r k1 => ?_)
      rw [q] at k1
      obtain ⟨k2, k3⟩ := k1.grd
      refine ⟨by rw [r.length]; exact of_decide_eq_true k2, ρ1, S1, B1, ws, s1, r, ?_⟩
      cases qc : cl f ws S1 with
      | bad => rw [qc] at k3; exact k3.elim
      | ok w S2 => rw [qc] at k3; exact k3
      | exc c fs en S2 =>
        rw [qc] at k3
        exact fun ρ' B' H' x s C' d fv mc hd rf => k3 ρ' B' H' x s σ C' d fv (sl1.mono x) mc hd rf
    | none =>
      rw [q] at g3
      have g4 : (known f && pg.free.contains f) = true := g3
      rw [Bool.and_eq_true] at g4
      refine bcall_ok C g1 g4.1 g2 (free_ok C g4.2) hs pwA (mapR_bind hE C sl sr h2 fun ws S1 ρ1 B1 H1 vs x1 s1 sl1 r k1 => ?_) wA_mono
      rw [q] at k1
      obtain ⟨w, e, k2⟩ := k1.lift
      exact ⟨S1, ρ1, B1, ws, w, s1, r, e, fun ρ' B' H' v x s rv => k2 ρ' B' H' x s v rv⟩
  · exact h.elim
end
end Mi

set_option Elab.async false
set_option linter.all false
set_option maxRecDepth 100000
set_option maxHeartbeats 4000000
/-! Mi9: tests and statements; the evaluator is right. -/
namespace Mi
open PySem PySem.Spec PyProof.Rows L2
section
variable {pg : Pg} {cl : Str → List W → Sto → R W} {E : Evs} {g : Gm} {Wx : WX} {X : Cx}
theorem plain_t {e : Expr} {env : Env} (h : plainT e = true) : ∀ whole, isTrue e env whole = (do let v ← whole; standAt e.pos; holding [v] (truthy v)) := by
  intro w
  cases e with
  | UnaryOp op a p => cases op <;> first | rfl | cases h
  | _ => first | rfl | cases h
theorem stepT_ok (hE : EvOk pg cl E) (C : CxOk pg cl g Wx X) {e : Expr} {env : Env'} {S : Sto} {σ : L2.St} {ρ : List Addr} {B H : Hp} {Q : Bool → Hp → Prop} (sl : Sl X.K B ρ σ env) (sr : SR X.K ρ S B H)
    (h : Hold X.K (stepT E g env S e) ρ B H (okT Q) (ExP X.K X.mg Wx)) : wT X e σ H Q := by
  unfold stepT at h
  split at h
  · refine wT_of (pt_not pwT) (hE.t' C sl sr h fun b S1 ρ1 B1 H1 x s1 sl1 k => ?_)
    exact k.here s1
  · exact wT_of (PW.pt pwW) (allR_ok hE C sl sr h)
  · obtain ⟨h1, h2⟩ := h.grd
    refine wT_of (pt_cmpR opW_r pwE pwE (by simpa using h1)) (hE.e' C sl sr h2 fun w S1 ρ1 B1 H1 v x1 s1 sl1 r1 k1 => hE.e' C sl1 s1 k1 fun w2 S2 ρ2 B2 H2 v2 x2 s2 sl2 r2 k2 => ?_)
    obtain ⟨c, e, k3⟩ := k2.lift
    refine cmpop_ok C.un s2 (r1.mono x2.b x2.pre) r2 e (fun ρ' B' H' v' x s r => ?_)
    cases r
    exact ⟨c, rfl, k3 ρ' B' H' x s⟩
  · obtain ⟨h1, h2⟩ := h.grd
    refine wT_of (pt_chain opW_r opW_r pwE pwE pwE (by simpa using h1)) (hE.e' C sl sr h2 fun w S1 ρ1 B1 H1 v x1 s1 sl1 r1 k1 => hE.e' C sl1 s1 k1 fun w2 S2 ρ2 B2 H2 v2 x2 s2 sl2 r2 k2 => ?_)
    obtain ⟨c, e, k3⟩ := k2.bind.lift
    refine cmpop_ok C.un s2 (r1.mono x2.b x2.pre) r2 e (fun ρ3 B3 H3 v3 x3 s3 r3 => ?_)
    cases r3
    have k4 := k3 ρ3 B3 H3 x3 s3
    refine ⟨c, rfl, ?_⟩
    cases c with
    | false => exact (show ∃ k, V.bl false = .bl k ∧ Q k H3 from ⟨false, rfl, k4.here s3⟩)
    | true =>
      refine (show wE X _ σ H3 _ from hE.e' C (sl2.mono x3) s3 k4 fun w5 S5 ρ5 B5 H5 v5 x5 s5 sl5 r5 k5 => ?_)
      obtain ⟨c', e', k6⟩ := k5.lift
      refine cmpop_ok C.un s5 ((r2.mono x3.b x3.pre).mono x5.b x5.pre) r5 e' (fun ρ' B' H' v' x s r => ?_)
      cases r
      exact ⟨c', rfl, k6 ρ' B' H' x s⟩
  · obtain ⟨h1, h2⟩ := h.grd
    refine wT_of (pt_truth pwE (plain_t h1)) (hE.e' C sl sr h2 fun w S1 ρ1 B1 H1 v x1 s1 sl1 r1 k1 => ?_)
    obtain ⟨b, e, k2⟩ := k1.lift
    exact ⟨b, truth_ok s1 r1 e, k2 ρ1 B1 H1 Ext.refl s1⟩

/-! ### statements -/
theorem nextN_ok {K : PySem.W.Frag} {x : Str} {w : W} {env : Env'} {S : Sto} {ρ : List Addr} {B H : Hp} {D : Ends} {σ : L2.St} {v : V} {ex : Str → List (Str × W) → Env' → List Addr → Hp → Hp → Prop} (h : Hold K (nextN g x w env S) ρ B H (okS K D) ex) (sr : SR K ρ S B H) (sl : Sl K B ρ σ env) (r : Rep K B ρ v w) :
    D.nx (σ.set ((slotOf g.N x).getD 0) (some v)) H := by
  unfold nextN at h
  cases q : bindN g x w env with
  | none => rw [q] at h; exact h.elim
  | some env1 =>
    rw [q] at h
    exact h.here sr _ (bindN_ok sl r q)
theorem name_slot (C : CxOk pg cl g Wx X) {x : Str} {p : Pos} (h : nameOk g (.Name x p) = true) : X.N[(slotOf g.N x).getD 0]? = some x ∧ L2.Loc X.env.scope x ∧ (X.fn x = true ∨ X.env.scope.names.lookup x = some .local) := by
  unfold nameOk at h
  rw [Bool.and_eq_true] at h
  obtain ⟨i, hi⟩ := Option.isSome_iff_exists.mp h.2
  rw [hi]
  exact ⟨by rw [C.N]; exact slotOf_get hi, loc_ok C h.1⟩
theorem no_comp {e : Expr} {t : Option Expr} {l : Nat} {env : Env} (h : (!isComp e) = true) : swapsWith e t l env = pure false := by
  cases e <;> first | rfl | cases h
theorem no_sole {t e : Expr} {l : Nat} {env : Env} (h : (!isComp e) = true) : swapsWithSole [t] e l env = pure false := by
  cases e <;> first | rfl | cases h
theorem no_swap {tg e : Expr} {env : Env} (h : (!isTup e) = true) : swappedStores [tg] e env = pure none := by
  cases e <;> first | (cases h; done) | (cases tg <;> rfl)
def rGetL (K : PySem.W.Frag) : V → V → Hp → VK → Prop := fun o i H Q => ∃ p xs k v, o = .ref p ∧ i = .int k ∧ SqL K H p xs ∧ 0 ≤ k ∧ k < 2 ^ 62 ∧ xs[k.toNat]? = some v ∧ Q v H
theorem get_list : PGet X (rGetL X.K) := by
  intro pins s σ H o i ov iv Q I ro ri h
  obtain ⟨p, xs, k, v, rfl, rfl, hq, h0, h1, hv, q⟩ := h
  cases ro
  obtain ⟨t, rfl⟩ := ri
  obtain ⟨its, rv, pl, hz⟩ := I.list hq
  obtain ⟨u, hu, ru⟩ := rv.get hv
  exact wpAny_getItem_list pl.isList h0 (by omega) (by simpa using hu) ⟨v, H, I, ru, q⟩
theorem ixN_in {n : Nat} {k : Int} (h0 : 0 ≤ k) (h : k.toNat < n) : ixN n k = some k.toNat := by
  unfold ixN
  rw [if_pos h0, if_pos (by omega)]
theorem aug_store {i : Expr} {ov iv new : Value} (h : plainIx i = true) : augStore i ov iv new = (do holding [new, ov, iv] (setItem ov iv new); release [new, ov, iv] []; pure .next) := by
  cases i <;> first | rfl | cases h
theorem sw_comp (elt : Expr) (gs : List Comprehension) (scope : Scope) (pos : Pos) (y : Str) (py : Pos) (l : Nat) (env : Env) : (swapsWith (.ListComp elt gs scope pos) (some (.Name y py)) l env = pure true ∧ env.scope.names.lookup y = some .local) ∨ swapsWith (.ListComp elt gs scope pos) (some (.Name y py)) l env = pure false := by
  have e : swapsWith (.ListComp elt gs scope pos) (some (.Name y py)) l env = pure (env.blockKind == .function && env.kindOf y == some .local && py.line == pos.line && !(scope.names.any fun (n, k) => n == y && (k == .local || k == .cell))) := rfl
  rw [e]
  cases q : (env.blockKind == .function && env.kindOf y == some .local && py.line == pos.line && !(scope.names.any fun (n, k) => n == y && (k == .local || k == .cell))) with
  | false => exact .inr rfl
  | true =>
    refine .inl ⟨rfl, ?_⟩
    rw [Bool.and_eq_true, Bool.and_eq_true, Bool.and_eq_true] at q
    have z : env.kindOf y = some .local := by
      have z := q.1.1.2
      cases w : env.kindOf y with
      | none => rw [w] at z; cases z
      | some k =>
        rw [w] at z
        cases k <;> first | rfl | cases z
    exact z
theorem stepS_ok (hE : EvOk pg cl E) (C : CxOk pg cl g Wx X) {st : Stmt} {env : Env'} {S : Sto} {σ : L2.St} {ρ : List Addr} {B H : Hp} {D : Ends} (sl : Sl X.K B ρ σ env) (sr : SR X.K ρ S B H)
    (h : Hold X.K (stepS pg cl E g env S st) ρ B H (okS X.K D) (ExP X.K X.mg Wx)) : wS X st D σ H := by
  unfold stepS at h
  split at h
  · exact wS_of (ps_ret pwE) (hE.e' C sl sr h fun w S1 ρ1 B1 H1 v x s1 sl1 r k => k.here s1 v r)
  · exact wS_of ps_retN (h.here sr .non .non)
  · exact wS_of ps_pass (h.here sr σ sl)
  · exact wS_of ps_break (h.here sr σ sl)
  · exact wS_of ps_continue (h.here sr σ sl)
  · obtain ⟨h1, h2⟩ := h.grd
    exact wS_of (ps_expr pwE (no_comp h1)) (hE.e' C sl sr h2 fun w S1 ρ1 B1 H1 v x s1 sl1 r k => k.here s1 σ sl1)
  · refine wS_of (ps_if pwT pwSs pwSs) (hE.t' C sl sr h fun d S1 ρ1 B1 H1 x s1 sl1 k => ?_)
    cases d with
    | true => exact (show wSs X _ D σ H1 from seqR_ok hE C sl1 s1 k)
    | false => exact (show wSs X _ D σ H1 from seqR_ok hE C sl1 s1 k)
  · rename_i x p e pos
    obtain ⟨h1, h2⟩ := h.grd
    obtain ⟨n1, n2, n3⟩ := name_slot C h1
    split at h2
    · rename_i es q
      split at h2
      · refine wS_of (ps_set C.nd n1 n2 (pe_lst pwA) rfl n3) (show wA X es σ H _ from mapR_bind hE C sl sr h2 fun ws S1 ρ1 B1 H1 vs x1 s1 sl1 r k => ?_)
        obtain ⟨k1, k2⟩ := k.grd
        refine ⟨by rw [r.length]; exact small_line k1, fun a ha => ?_⟩
        cases qb : bindN g x (.ref S1.length) env with
        | none => rw [qb] at k2; exact k2.elim
        | some env1 =>
          rw [qb] at k2
          have s2 := s1.newCell ha (RepO.lst r)
          have x2 : Ext ρ1 B1 H1 (ρ1 ++ [a]) B1 (upd H1 a (.lst vs)) := Ext.cell ha
          exact k2 _ _ _ x2 s2 _ (bindN_ok (sl1.mono x2) (.ref (by rw [← s1.len]; simp)) qb)
      · exact wS_of (ps_set C.nd n1 n2 pwE rfl n3) (show wE X _ σ H _ from hE.e' C sl sr h2 fun w S1 ρ1 B1 H1 v x1 s1 sl1 r k => nextN_ok k s1 sl1 r)
    · rename_i elt tg iter ifs scope q
      obtain ⟨t, g1, bk, g3, g4⟩ := lcE_ok hE C (pos := q) sl sr (h2.bind.imp (ok' := okE X.K fun v H' => D.nx (σ.set ((slotOf g.N x).getD 0) (some v)) H') (fun w S1 ρ1 B1 H1 x1 s1 k v r => nextN_ok k s1 (sl.mono x1) r) fun _ _ _ _ _ _ z => z)
      have pl := pe_lc (pos := q) C.calm C.nd (pwI (X := X) (tg := tg) (iter := iter)) bk (g := tgG X.K (blkG g scope) tg) (fun s0 H0 Ca cs fp => pg_tg (cx_blk C scope s0 H0 Ca cs fp) g3) (pts_of g4) (te := wEb X scope elt) (fun s0 H0 Ca cs fp => ⟨fun pins s σ' H' Q' I q => q s0 H0 Ca cs fp pins s I⟩) (not_set g1)
      rcases sw_comp elt [⟨tg, iter, ifs, 0⟩] scope q x p pos.line X.env with ⟨hw, hl⟩ | hw
      · exact wS_of (ps_setLc C.calm C.nd n1 hl hw pwI bk (g := tgG X.K (blkG g scope) tg) (fun s0 H0 Ca cs fp => pg_tg (cx_blk C scope s0 H0 Ca cs fp) g3) (pts_of g4) (te := wEb X scope elt) (fun s0 H0 Ca cs fp => ⟨fun pins s σ' H' Q' I q => q s0 H0 Ca cs fp pins s I⟩) (not_set g1)) t
      · exact wS_of (ps_set C.nd n1 n2 pl hw n3) t
    · obtain ⟨g1, g2⟩ := h2.grd
      exact wS_of (ps_set C.nd n1 n2 pwE (no_comp g1) n3) (show wE X _ σ H _ from hE.e' C sl sr g2 fun w S1 ρ1 B1 H1 v x1 s1 sl1 r k => nextN_ok k s1 sl1 r)
  · rename_i es k p e pos
    obtain ⟨h1, h2⟩ := h.grd
    rw [Bool.and_eq_true, Bool.and_eq_true] at h1
    refine wS_of (ps_asg pwE (pg_tg C h1.2) (no_sole h1.1.2) (no_swap h1.1.1) rfl) (show wE X _ σ H _ from hE.e' C sl sr h2 fun w S1 ρ1 B1 H1 v x1 s1 sl1 r k => ?_)
    split at k
    · rename_i env1 q
      exact bindT_ok s1 sl1 r q fun σ2 sl2 _ => k.here s1 σ2 sl2
    · exact k.elim
  · rename_i x p e pos
    obtain ⟨h1, h2⟩ := h.grd
    obtain ⟨n1, n2, n3⟩ := name_slot C h1
    split at h2
    · rename_i a qa
      obtain ⟨va, e1, ra⟩ := sl.at_ _ _ qa
      cases ra
      refine wS_of (ps_aug C.nd n1 n2 pwE ip_add n3) ⟨_, e1, ?_⟩
      refine (show wE X _ σ H _ from hE.e' C sl sr h2 fun w S1 ρ1 B1 H1 v x1 s1 sl1 r k => ?_)
      split at k
      · cases r
        exact ⟨_, _, rfl, rfl, nextN_ok k s1 sl1 (.int _)⟩
      · exact k.elim
    · exact h2.elim
  · rename_i o i p e pos
    obtain ⟨h1, h2⟩ := h.grd
    refine wS_of (ps_augS pwE pwE get_list pwE ip_add set_list (fun _ _ _ => aug_store h1)) (show wE X _ σ H _ from hE.e' C sl sr h2 fun w S1 ρ1 B1 H1 v x1 s1 sl1 r1 k1 => hE.e' C sl1 s1 k1 fun w2 S2 ρ2 B2 H2 v2 x2 s2 sl2 r2 k2 => ?_)
    split at k2
    · rename_i n k
      split at k2
      · rename_i ws q1
        split at k2
        · rename_i a d1 q2
          have r1' := r1.mono x2.b x2.pre
          cases r1' with
          | ref hn =>
            cases r2
            have dd := of_decide_eq_true d1
            obtain ⟨u, hu, ro⟩ := s2.at hn q1
            cases ro with
            | lst rr =>
              obtain ⟨va, e1, ra⟩ := rr.get q2
              cases ra
              refine ⟨_, _, _, _, rfl, rfl, SqL.of hu, dd.1, dd.2, e1, ?_⟩
              refine (show wE X _ σ H2 _ from hE.e' C sl2 s2 k2 fun w3 S3 ρ3 B3 H3 v3 x3 s3 sl3 r3 k3 => ?_)
              split at k3
              · rename_i b ws' q3
                cases r3
                obtain ⟨k4, k5⟩ := k3.grd
                have hn3 := pre_get x3.pre hn
                obtain ⟨u3, hu3, ro3⟩ := s3.at hn3 q3
                cases ro3 with
                | lst rr3 =>
                  refine ⟨_, _, rfl, rfl, _, _, _, k.toNat, rfl, rfl, hu3, ixN_in dd.1 (by rw [rr3.length]; exact of_decide_eq_true k4), ?_⟩
                  exact k5 _ _ _ (Ext.setCell hn3) (s3.setCell hn3 (RepO.lst (rr3.set (.int _) _))) σ (sl3.mono (Ext.setCell (H := H3) (o := HO.lst []) hn3))
              · exact k3.elim
        · exact k2.elim
      · exact k2.elim
    · exact k2.elim
  · obtain ⟨h1, h2⟩ := h.grd
    rw [Bool.and_eq_true] at h1
    refine wS_of (ps_for C.pass C.calm pwI (pg_tg C h1.2) pwSs (not_set h1.1)) ?_
    refine evIter_ok hE C sl sr (h2.bind.imp (fun items S1 ρ1 B1 H1 x1 s1 k J wk => ?_) fun _ _ _ _ _ _ z => z)
    exact forR_ok (fun sl sr h => seqR_ok hE C sl sr h) wk (sl.mono x1) s1 k
  · exact wS_of (ps_while C.pass pwT pwSs) (whileR_ok (fun sl sr h => hE.t C sl sr h) (fun sl sr h => seqR_ok hE C sl sr h) sl sr h)
  · exact h.elim
theorem ev_ok (pg : Pg) (cl : Str → List W → Sto → R W) : ∀ n, EvOk pg cl (ev pg cl n)
  | 0 => ⟨fun {_ _ _} _ {_ _ _ _ _ _ _ _} _ _ h => h.elim, fun {_ _ _} _ {_ _ _ _ _ _ _ _} _ _ h => h.elim, fun {_ _ _} _ {_ _ _ _ _ _ _ _} _ _ h => h.elim⟩
  | n + 1 => ⟨fun C => stepE_ok (ev_ok pg cl n) C, fun C => stepT_ok (ev_ok pg cl n) C, fun C => stepS_ok (ev_ok pg cl n) C⟩
end
end Mi

set_option Elab.async false
set_option linter.all false
set_option maxRecDepth 100000
set_option maxHeartbeats 4000000
/-! Mi10: defs and their calls. -/
namespace Mi
open PySem PySem.Spec PyProof.Rows L2

/-- a def of the text: its names (the parameters first), how many parameters, body, scope, names whose displays are cells -/
structure Fn where
  N : List Str
  P : Nat
  body : List Stmt
  sc : Scope
  muts : List Str

/-! ### what is left of cells -/
mutual
def frzW (S : Sto) (n0 : Nat) : Nat → W → Option W
  | 0, _ => none
  | f + 1, w => match w with
    | .ref n => if n < n0 then some (.ref n) else (match S[n]? with
      | some (.lst ws) => (frzs S n0 f ws).map .lst
      | none => none)
    | .tup ws => (frzs S n0 f ws).map .tup
    | .lst ws => (frzs S n0 f ws).map .lst
    | .frl ws => (frzs S n0 f ws).map .frl
    | w => some w
def frzs (S : Sto) (n0 : Nat) : Nat → List W → Option (List W)
  | 0, _ => none
  | _ + 1, [] => some []
  | f + 1, w :: ws => match frzW S n0 f w, frzs S n0 f ws with
    | some x, some xs => some (x :: xs)
    | _, _ => none
end
def frzO (S : Sto) (n0 : Nat) : SO → Option SO
  | .lst ws => (frzs S n0 100000 ws).map .lst
def frzS (S : Sto) (n0 : Nat) : List SO → Option (List SO)
  | [] => some []
  | o :: r => match frzO S n0 o, frzS S n0 r with
    | some x, some xs => some (x :: xs)
    | _, _ => none
def exitW (n0 : Nat) (w : W) (S : Sto) : R W :=
  if S.length = n0 then .ok w S
  else match frzW S n0 100000 w, frzS S n0 (S.take n0) with
    | some w', some S' => .ok w' S'
    | _, _ => .bad
def exitR (n0 : Nat) (r : R Out') : R W := r.bind fun o S => match o with
  | .ret w => exitW n0 w S
  | .next _ => exitW n0 .non S
  | .brk _ => .bad
  | .cont _ => .bad
def startE (N : List Str) (ws : List W) : Env' := ws.map some ++ List.replicate (N.length - ws.length) none
def FUEL : Nat := 1000
def gmOf (F : Fn) : Gm := ⟨F.N, F.sc, fun _ => true, F.muts⟩
def bodyR (pg : Pg) (cl : Str → List W → Sto → R W) (F : Fn) (ws : List W) (S : Sto) : R Out' := seqR (fun env S s => (ev pg cl FUEL).s (gmOf F) env S s) F.body (startE F.N ws) S
def callD (pg : Pg) (fns : Str → Option Fn) : Nat → Str → List W → Sto → R W
  | 0, _, _, _ => .bad
  | d + 1, f, ws, S => match fns f with
    | none => .bad
    | some F => guard' (decide (ws.length = F.P)) (exitR S.length (bodyR pg (callD pg fns d) F ws S))

section
variable {K : PySem.W.Frag} {ρ : List Addr} {S : Sto} {B H : Hp} {n0 : Nat}
/-- the cells of this frame, never to change -/
def addB (B H : Hp) (m : List Addr) : Hp := fun a => if a ∈ m then H a else B a
theorem addB_in {m : List Addr} {a : Addr} (h : a ∈ m) : addB B H m a = H a := if_pos h
theorem addB_out {m : List Addr} {a : Addr} (h : a ∉ m) : addB B H m a = B a := if_neg h
theorem SR.cell_none (s : SR K ρ S B H) {a : Addr} (h : a ∈ ρ) : B a = none := by
  obtain ⟨i, hi⟩ := List.getElem?_of_mem h
  have hl : i < S.length := by rw [← s.len]; exact (List.getElem?_eq_some_iff.mp hi).1
  exact (s.cell i a S[i] hi (by simp [hl])).1
theorem addB_same (s : SR K ρ S B H) : Same B (addB B H (ρ.drop n0)) := fun a o h => by
  have hn : a ∉ ρ.drop n0 := fun hm => by
    rw [s.cell_none (List.mem_of_mem_drop hm)] at h
    cases h
  rw [addB_out hn]
  exact h
mutual
theorem frzW_ok (s : SR K ρ S B H) : ∀ {f : Nat} {v : V} {w w' : W}, Rep K B ρ v w → frzW S n0 f w = some w' → Rep K (addB B H (ρ.drop n0)) (ρ.take n0) v w'
  | 0, _, _, _, _, e => by cases e
  | f + 1, _, _, _, .non, e => by cases e; exact .non
  | f + 1, _, _, _, .bl b, e => by cases e; exact .bl b
  | f + 1, _, _, _, .int b, e => by cases e; exact .int b
  | f + 1, _, _, _, .str b, e => by cases e; exact .str b
  | f + 1, _, .tup ws, w', .tup h r, e => by
    unfold frzW at e
    cases q : frzs S n0 f ws with
    | none => simp only [q] at e; cases e
    | some xs =>
      simp only [q] at e
      cases e
      exact .tup (Same.tup (addB_same s) h) (frzs_ok s r q)
  | f + 1, _, .lst ws, w', .lst h r, e => by
    unfold frzW at e
    cases q : frzs S n0 f ws with
    | none => simp only [q] at e; cases e
    | some xs =>
      simp only [q] at e
      cases e
      exact .lst (addB_same s _ _ h) (frzs_ok s r q)
  | f + 1, _, .frl ws, w', .frl h r, e => by
    unfold frzW at e
    cases q : frzs S n0 f ws with
    | none => simp only [q] at e; cases e
    | some xs =>
      simp only [q] at e
      cases e
      exact .frl ((addB_same s).seq h) (frzs_ok s r q)
  | f + 1, .ref a, .ref n, w', .ref h, e => by
    unfold frzW at e
    by_cases hn : n < n0
    · simp only [if_pos hn] at e
      cases e
      exact .ref (by rw [List.getElem?_take_of_lt hn]; exact h)
    · simp only [if_neg hn] at e
      cases q : S[n]? with
      | none => simp only [q] at e; cases e
      | some o =>
        simp only [q] at e
        cases o with
        | lst ws =>
          cases q2 : frzs S n0 f ws with
          | none => simp only [q2] at e; cases e
          | some xs =>
            simp only [q2] at e
            cases e
            obtain ⟨u, hu, ro⟩ := s.at h q
            cases ro with
            | lst rr =>
              have hm : a ∈ ρ.drop n0 := by
                refine List.mem_of_getElem? (i := n - n0) ?_
                rw [List.getElem?_drop, Nat.add_sub_cancel' (Nat.le_of_not_lt hn)]
                exact h
              exact .lst (by rw [addB_in hm]; exact hu) (frzs_ok s rr q2)
theorem frzs_ok (s : SR K ρ S B H) : ∀ {f : Nat} {vs : List V} {ws ws' : List W}, RepL K B ρ vs ws → frzs S n0 f ws = some ws' → RepL K (addB B H (ρ.drop n0)) (ρ.take n0) vs ws'
  | 0, _, _, _, _, e => by cases e
  | f + 1, _, [], _, .nil, e => by cases e; exact .nil
  | f + 1, _, w :: ws, _, .cons r t, e => by
    unfold frzs at e
    cases q1 : frzW S n0 f w with
    | none => simp only [q1] at e; cases e
    | some x =>
      cases q2 : frzs S n0 f ws with
      | none => simp only [q1, q2] at e; cases e
      | some xs =>
        simp only [q1, q2] at e
        cases e
        exact .cons (frzW_ok s r q1) (frzs_ok s t q2)
end
theorem frzS_get {S0 : Sto} {n0 : Nat} : ∀ {l l' : List SO}, frzS S0 n0 l = some l' → l'.length = l.length ∧ ∀ (i : Nat) (o' : SO), l'[i]? = some o' → ∃ o : SO, l[i]? = some o ∧ frzO S0 n0 o = some o'
  | [], l', e => by cases e; exact ⟨rfl, fun i o' h => by simp at h⟩
  | o :: r, l', e => by
    unfold frzS at e
    cases q1 : frzO S0 n0 o with
    | none => simp only [q1] at e; cases e
    | some x =>
      cases q2 : frzS S0 n0 r with
      | none => simp only [q1, q2] at e; cases e
      | some xs =>
        simp only [q1, q2] at e
        cases e
        obtain ⟨h1, h2⟩ := frzS_get q2
        refine ⟨by simp [h1], fun i o' h => ?_⟩
        cases i with
        | zero =>
          have z : x = o' := by simpa using h
          exact ⟨o, by simp, by rw [q1, z]⟩
        | succ i =>
          obtain ⟨o2, h3, h4⟩ := h2 i o' (by simpa using h)
          exact ⟨o2, by simpa using h3, h4⟩
/-- a frame is left -/
theorem exitW_ok {w : W} {Q : VK} {ρ0 : List Addr} {B0 H0 : Hp} {v : V} {ex : Str → List (Str × W) → Env' → List Addr → Hp → Hp → Prop} (x : Ext ρ0 B0 H0 ρ B H) (s : SR K ρ S B H) (r : Rep K B ρ v w) (hn : ρ0.length = n0)
    (h : Hold K (exitW n0 w S) ρ0 B0 H0 (okE K Q) ex) : Q v H := by
  unfold exitW at h
  split at h
  · exact h ρ B H x s v r
  · cases q1 : frzW S n0 100000 w with
    | none => simp only [q1] at h; exact h.elim
    | some w' =>
      cases q2 : frzS S n0 (S.take n0) with
      | none => simp only [q1, q2] at h; exact h.elim
      | some S' =>
        simp only [q1, q2] at h
        obtain ⟨m, hp, hm⟩ := x.p
        have ht : ρ.take n0 = ρ0 := by rw [hp, ← hn]; simp
        have hd : ρ.drop n0 = m := by rw [hp, ← hn]; simp
        have r' := frzW_ok s r q1
        obtain ⟨l1, l2⟩ := frzS_get q2
        have hle : n0 ≤ S.length := by rw [← s.len, hp, ← hn]; simp
        refine h ρ0 (addB B H (ρ.drop n0)) H ⟨x.b.trans (addB_same s), ⟨[], by simp, fun a h => by simp at h⟩, x.frame, x.there, fun a o ha hb => ?_⟩ ⟨fun a o ha => ?_, ?_, ?_, fun i a o e1 e2 => ?_⟩ v ?_
        · rw [addB_out (fun z => by
            rw [hd] at z
            rw [hm a z] at ha
            cases ha)]
          exact x.new a o ha hb
        · by_cases z : a ∈ ρ.drop n0
          · rw [addB_in z] at ha
            exact ha
          · rw [addB_out z] at ha
            exact s.same a o ha
        · rw [l1, List.length_take, hn]
          omega
        · have z := s.nd
          rw [hp] at z
          exact (List.nodup_append.mp z).1
        · obtain ⟨o1, h1, h2⟩ := l2 i o e2
          have hi : i < n0 := by rw [← hn]; exact (List.getElem?_eq_some_iff.mp e1).1
          rw [List.getElem?_take_of_lt hi] at h1
          have e3 : ρ[i]? = some a := by rw [hp]; rw [List.getElem?_append_left (by rw [hn]; exact hi)]; exact e1
          obtain ⟨nb, u, hu, ro⟩ := s.cell i a o1 e3 h1
          refine ⟨?_, u, hu, ?_⟩
          · rw [addB_out (fun z => ?_)]
            · exact nb
            · have nd := s.nd
              rw [hp] at nd
              rw [hd] at z
              exact (List.nodup_append.mp nd).2.2 a (List.mem_of_getElem? e1) a z rfl
          · cases o1 with
            | lst ws =>
              cases ro with
              | lst rr =>
                have h2 : (frzs S n0 100000 ws).map SO.lst = some o := h2
                cases q3 : frzs S n0 100000 ws with
                | none => rw [q3] at h2; cases h2
                | some xs =>
                  rw [q3] at h2
                  cases h2
                  have z := frzs_ok s rr q3
                  rw [ht] at z
                  exact .lst z
        · rw [ht] at r'
          exact r'
end

/-! ### the defs of a text -/
/-- where a def stands -/
structure Def (K : PySem.W.Frag) (mg : Str → Option Value) (f : Str) (F : Fn) : Prop where
  at_ : ∃ fa fd params, FunD K f f params F.body F.sc [] [] fa fd ∧ mg f = some (.ref fa) ∧ Binds K fd (F.N.take F.P) []
  sc : FnScope F.N (F.N.take F.P) F.sc
  len : (F.N.take F.P).length = F.P
structure Txt (K : PySem.W.Frag) (mg : Str → Option Value) (pg : Pg) (fns : Str → Option Fn) : Prop where
  defs : ∀ f F, fns f = some F → Def K mg f F
  ar : ∀ f, pg.ar f = (fns f).map Fn.P
  cst : ∀ x w, pg.cst x = some w → ∃ u v, mg x = some u ∧ RelV v u ∧ ∀ B, Rep K B [] v w
  free : ∀ f ∈ pg.free, mg f = none
section
variable {P : Program} {w : World} {K : PySem.W.Frag} {mg : Str → Option Value} {base : Heap} {pg : Pg} {fns : Str → Option Fn}
theorem start_sl {B : Hp} {ρ : List Addr} {N : List Str} {vs : List V} {ws : List W} (r : RepL K B ρ vs ws) : Sl K B ρ (L2.start N vs) (startE N ws) := by
  refine ⟨by simp [L2.start, startE, r.length], fun i x h => ?_⟩
  unfold startE at h
  unfold L2.start
  by_cases hi : i < ws.length
  · rw [List.getElem?_append_left (by simpa using hi), List.getElem?_map] at h
    rw [List.getElem?_append_left (by simpa [r.length] using hi), List.getElem?_map]
    cases q : ws[i]? with
    | none => rw [q] at h; cases h
    | some y =>
      rw [q] at h
      cases h
      obtain ⟨v, h1, h2⟩ := r.get q
      exact ⟨v, by rw [h1]; rfl, h2⟩
  · rw [List.getElem?_append_right (by simpa using hi), List.getElem?_replicate] at h
    split at h <;> cases h
/-- one def, those that it calls being right -/
theorem fn_step (T : Txt K mg pg fns) {d : Nat} {f : Str} {F : Fn} {fa : Addr} {fd : FuncData} {params : Arguments} (hf : fns f = some F) (FD : FunD K f f params F.body F.sc [] [] fa fd)
    (ih : ∀ (f : Str) (F : Fn), fns f = some F → ∃ fa fd, FnOk P w K mg base (L2.CX P w) d fa fd (F.N.take F.P) (SpF K mg (callD pg fns d) f F.P) ∧ mg f = some (.ref fa) ∧ PySem.W.keepIn K (.ref fa) = true ∧ Binds K fd (F.N.take F.P) []) :
    FnOk P w K mg base (L2.CX P w) (d + 1) fa fd (F.N.take F.P) (SpF K mg (callD pg fns (d + 1)) f F.P) := by
  have sc := (T.defs f F hf).sc
  have len := (T.defs f F hf).len
  refine FD.ok sc (fun vs H Q E h => by rw [len]; exact h.1) (fun cdv A outer s H vs Q E hr h => ⟨_, pwSs, ?_⟩)
  obtain ⟨hl, ρ, S, B, ws, sr, r, h⟩ := h
  unfold callD at h
  rw [hf] at h
  obtain ⟨h1, h2⟩ := h.grd
  have C : CxOk pg (callD pg fns d) (gmOf F) (fun cls d _ H => E cls d H) (cxOf (L2.CX P w) P w K mg base F.N f F.sc fa cdv A outer s H E) :=
    { N := rfl, nd := sc.nd, sc := rfl, fn := rfl, calm := rfl, un := by have := hr.un; show (A.deeper (envOfC f F.sc s.heap.objs.size fa cdv)).units + 65 < cLine; omega, pass := passes_of rfl, tk := takes_of rfl rfl rfl rfl, cst := T.cst, free := T.free
      fns := fun f' n' e => by
        rw [T.ar] at e
        cases q : fns f' with
        | none => rw [q] at e; cases e
        | some F' =>
          rw [q] at e
          cases e
          obtain ⟨fa', fd', G, m', kp', b'⟩ := ih f' F' q
          exact ⟨fa', fd', d, F'.N.take F'.P, (T.defs f' F' q).len, G, m', kp', b', hr⟩ }
  refine seqR_ok (ev_ok pg (callD pg fns d) FUEL) C (start_sl r) sr ?_
  have h3 : Hold K (exitR S.length (bodyR pg (callD pg fns d) F ws S)) ρ B H (okE K Q) (ExP K mg fun cls d _ H => E cls d H) := h2.imp (fun _ _ _ _ _ _ _ z => z) (fun c fs e ρ' B' H' z σ' C' d' fv _ mc hd rf => z C' d' fv mc hd rf)
  unfold exitR at h3
  refine (h3.bind0).imp (fun o S' ρ' B' H' x s' k => ?_) (fun _ _ _ _ _ _ z => z)
  cases o with
  | next env => exact fun σ' _ => exitW_ok x s' .non sr.len k
  | ret v => exact fun u ru => exitW_ok x s' ru sr.len k
  | brk env => exact k.elim
  | cont env => exact k.elim
theorem fn_ok (T : Txt K mg pg fns) : ∀ (d : Nat) (f : Str) (F : Fn), fns f = some F → ∃ fa fd, FnOk P w K mg base (L2.CX P w) d fa fd (F.N.take F.P) (SpF K mg (callD pg fns d) f F.P) ∧ mg f = some (.ref fa) ∧ PySem.W.keepIn K (.ref fa) = true ∧ Binds K fd (F.N.take F.P) []
  | 0, f, F, hf => by
    obtain ⟨⟨fa, fd, params, FD, m, b⟩, sc, len⟩ := T.defs f F hf
    refine ⟨fa, fd, ⟨fun vs H Q E h => by rw [len]; exact h.1, fun A outer s H args us vs Q E _ _ _ _ h => ?_⟩, m, FD.kp, b⟩
    obtain ⟨_, _, _, _, _, _, _, h⟩ := h
    exact h.elim
  | d + 1, f, F, hf => by
    obtain ⟨⟨fa, fd, params, FD, m, b⟩, sc, len⟩ := T.defs f F hf
    exact ⟨fa, fd, fn_step T hf FD (fn_ok T d), m, FD.kp, b⟩
end
end Mi

set_option Elab.async false
set_option linter.all false
set_option maxRecDepth 100000
set_option maxHeartbeats 4000000
/-! Mi11: a law's end. -/
namespace Mi
open PySem PySem.Spec PyProof.Rows L2
theorem lookup_memW {β : Type} : ∀ {l : List (Str × β)} {f : Str} {F : β}, l.lookup f = some F → (f, F) ∈ l
  | [], _, _, h => by cases h
  | (g, G) :: r, f, F, h => by
    rw [List.lookup_cons] at h
    cases q : f == g with
    | true =>
      rw [q] at h
      cases h
      have e : f = g := eq_of_beq q
      rw [e]
      exact List.mem_cons_self ..
    | false =>
      rw [q] at h
      exact List.mem_cons_of_mem _ (lookup_memW h)
theorem all_nilW {β : Type} {p : β → Prop} : ∀ x ∈ ([] : List β), p x := fun x h => by cases h
theorem all_consW {β : Type} {p : β → Prop} {a : β} {l : List β} (h1 : p a) (h2 : ∀ x ∈ l, p x) : ∀ x ∈ a :: l, p x := fun x h => by
  rcases List.mem_cons.mp h with e | h
  · rw [e]; exact h1
  · exact h2 x h
/-- no exception: the plain promise -/
theorem fn_plain {P : Program} {w : World} {K : PySem.W.Frag} {mg : Str → Option Value} {base : Heap} {k : Nat} {f : Addr} {fd : FuncData} {ps : List Str} {sp : Sp} (F : FnOk P w K mg base (L2.CX P w) k f fd ps sp) :
    FnOk P w K mg base CX0 k f fd ps (fun vs H Q _ => sp vs H Q E0) := by
  refine ⟨fun vs H Q E h => F.len vs H Q E0 h, fun A outer s H args us vs Q E hr e hb hv h => codeAny_mono (F.run A outer s H args us vs Q E0 hr e hb hv h) fun r s' hq => ?_⟩
  cases r with
  | ok fl => cases fl <;> exact hq
  | error u =>
    obtain ⟨_, _, _, _, _, _, _, _, _, _, _, _, z⟩ := hq
    exact z.elim
theorem law_sp {K : PySem.W.Frag} {mg : Str → Option Value} {cl : Str → List W → Sto → R W} {H : Hp} {a : Addr} {ns : List Int} (hS : SqL K H a (ns.map V.int)) (h : cl "law" [.frl (ns.map W.int)] [] = .ok (.bl true) []) :
    SpF K mg cl "law" 1 [.ref a] H (fun v _ => v = .bl true) E0 := by
  refine ⟨rfl, [], [], H, [.frl (ns.map W.int)], ⟨Same.refl H, rfl, List.nodup_nil, fun i a o h => by simp at h⟩, .cons (.frl hS ?_) .nil, ?_⟩
  · clear hS h
    induction ns with
    | nil => exact .nil
    | cons n r ih => exact .cons (.int n) ih
  · rw [h]
    exact fun ρ' B' H' x s v r => by cases r; rfl
end Mi

set_option Elab.async false
set_option linter.all false
set_option maxRecDepth 100000
set_option maxHeartbeats 4000000
/-! Mi12: the evaluator's words without a text: what a def's body comes to. -/
namespace Mi
open PySem PySem.Spec PyProof.Rows L2
abbrev CE := Env' → Sto → R W
abbrev CT := Env' → Sto → R Bool
abbrev CS := Env' → Sto → R Out'
abbrev CI := Env' → Sto → R (List W)
abbrev Cl := Str → List W → Sto → R W
def xV (i : Nat) : CE := fun env S => match env[i]? with
  | some (some w) => .ok w S
  | _ => .bad
def xC (w : W) : CE := fun _ S => .ok w S
def mapC : List CE → Env' → Sto → R (List W)
  | [], _, S => .ok [] S
  | c :: cs, env, S => (c env S).bind fun w S1 => (mapC cs env S1).bind fun ws S2 => .ok (w :: ws) S2
def xTup (cs : List CE) : CE := fun env S => (mapC cs env S).bind fun ws S1 => guard' (small ws.length) (.ok (.tup ws) S1)
def xLst (cs : List CE) : CE := fun env S => (mapC cs env S).bind fun ws S1 => guard' (small ws.length) (.ok (.lst ws) S1)
def xBin (op : Operator) (a b : CE) : CE := fun env S => (a env S).bind fun x S1 => (b env S1).bind fun y S2 => lift (binop S2 op x y) S2
def xNot (a : CE) : CE := fun env S => (a env S).bind fun x S1 => (match x with
  | .bl b => .ok (.bl (!b)) S1
  | _ => .bad)
def xNeg (a : CE) : CE := fun env S => (a env S).bind fun x S1 => (match x with
  | .int i => .ok (.int (-i)) S1
  | _ => .bad)
def xBool (op : BoolOp) : List CE → CE
  | [], _, _ => .bad
  | [a], env, S => a env S
  | a :: b :: r, env, S => (a env S).bind fun w S1 => (match w with
    | .bl c => (match op, c with
      | .And, true => xBool op (b :: r) env S1
      | .And, false => .ok (.bl false) S1
      | .Or, true => .ok (.bl true) S1
      | .Or, false => xBool op (b :: r) env S1)
    | _ => .bad)
def xCmp (op : CmpOp) (a b : CE) : CE := fun env S => (a env S).bind fun x S1 => (b env S1).bind fun y S2 => (lift (cmpop S2 op x y) S2).bind fun c S3 => .ok (.bl c) S3
def xChain (op op' : CmpOp) (a b c : CE) : CE := fun env S => (a env S).bind fun x S1 => (b env S1).bind fun y S2 => (lift (cmpop S2 op x y) S2).bind fun d S3 => (match d with
  | false => .ok (.bl false) S3
  | true => (c env S3).bind fun z S4 => (lift (cmpop S4 op' y z) S4).bind fun d' S5 => .ok (.bl d') S5)
def xIf (t : CT) (a b : CE) : CE := fun env S => (t env S).bind fun c S1 => (match c with
  | true => a env S1
  | false => b env S1)
def oC : Option CE → Env' → Sto → R (Option Int)
  | none, _, S => .ok none S
  | some e, env, S => (e env S).bind fun w S1 => (match w with
    | .int i => .ok (some i) S1
    | _ => .bad)
def xSl (a : CE) (lo hi : Option CE) : CE := fun env S => (a env S).bind fun x S1 => (oC lo env S1).bind fun l S2 => (oC hi env S2).bind fun h S3 => lift (slS S3 x l h) S3
def xIx (a i : CE) : CE := fun env S => (a env S).bind fun x S1 => (i env S1).bind fun y S2 => lift (ixS S2 x y) S2
def bN (i : Nat) : W → Env' → Option Env' := fun w env => some (env.set i (some w))
/-- a comprehension: bnd binds the target, vs its slots -/
def xLc (bnd : W → Env' → Option Env') (vs : List Nat) (iter : CI) (c : Option CT) (elt : CE) : CE := fun env S => (iter env S).bind fun items S1 =>
  lcR (fun w S => (match bnd w (wipeE env vs) with
    | none => .bad
    | some env1 => (match c with
      | none => (noExc (elt env1 S)).bind fun y S2 => .ok (some y) S2
      | some c => (noExc (c env1 S)).bind fun b S2 => (match b with
        | true => (noExc (elt env1 S2)).bind fun y S3 => .ok (some y) S3
        | false => .ok none S2)))) items [] S1
def xCall (cl : Cl) (f : Str) (n : Nat) (args : List CE) : CE := fun env S => (mapC args env S).bind fun ws S1 => guard' (decide (ws.length = n)) (match cl f ws S1 with
  | .ok w S2 => .ok w S2
  | .exc c fs _ S2 => .exc c fs env S2
  | .bad => .bad)
def xBlt (f : Str) (args : List CE) : CE := fun env S => (mapC args env S).bind fun ws S1 => lift (bcall S1 f ws) S1
def cNot (a : CT) : CT := fun env S => (a env S).bind fun b S1 => .ok (!b) S1
def cBool (op : BoolOp) : List CT → CT
  | [], _, _ => .bad
  | [a], env, S => a env S
  | a :: b :: r, env, S => (a env S).bind fun c S1 => (match op, c with
    | .And, true => cBool op (b :: r) env S1
    | .And, false => .ok false S1
    | .Or, true => .ok true S1
    | .Or, false => cBool op (b :: r) env S1)
def cCmp (op : CmpOp) (a b : CE) : CT := fun env S => (a env S).bind fun x S1 => (b env S1).bind fun y S2 => lift (cmpop S2 op x y) S2
def cChain (op op' : CmpOp) (a b c : CE) : CT := fun env S => (a env S).bind fun x S1 => (b env S1).bind fun y S2 => (lift (cmpop S2 op x y) S2).bind fun d S3 => (match d with
  | false => .ok false S3
  | true => (c env S3).bind fun z S4 => lift (cmpop S4 op' y z) S4)
def cTru (a : CE) : CT := fun env S => (a env S).bind fun w S1 => lift (truth S1 w) S1
def iRng1 (a : CE) : CI := fun env S => (mapC [a] env S).bind fun ws S1 => (match ws with
  | [.int n] => guard' (decide (-(2 ^ 62) ≤ n ∧ n < 2 ^ 62)) (.ok ((List.range n.toNat).map fun i : Nat => W.int ((0 : Int) + (i : Int))) S1)
  | _ => .bad)
def iRng2 (a b : CE) : CI := fun env S => (mapC [a, b] env S).bind fun ws S1 => (match ws with
  | [.int m, .int n] => guard' (decide (-(2 ^ 62) ≤ m ∧ m < 2 ^ 62 ∧ -(2 ^ 62) ≤ n ∧ n < 2 ^ 62)) (.ok ((List.range (n - m).toNat).map fun i : Nat => W.int (m + (i : Int))) S1)
  | _ => .bad)
def iOf (a : CE) : CI := fun env S => (a env S).bind fun w S1 => (match w with
  | .lst ws => .ok ws S1
  | .frl ws => .ok ws S1
  | .tup ws => .ok ws S1
  | .str z => .ok (strW z) S1
  | _ => .bad)
def seqC : List CS → CS
  | [], env, S => .ok (.next env) S
  | s :: r, env, S => (s env S).bind fun o S1 => (match o with
    | .next env1 => seqC r env1 S1
    | .ret w => .ok (.ret w) S1
    | .brk e => .ok (.brk e) S1
    | .cont e => .ok (.cont e) S1)
def sRet (e : CE) : CS := fun env S => (e env S).bind fun w S1 => .ok (.ret w) S1
def sRetN : CS := fun env S => .ok (.ret .non) S
def sPass : CS := fun env S => .ok (.next env) S
def sBrk : CS := fun env S => .ok (.brk env) S
def sCont : CS := fun env S => .ok (.cont env) S
def sExpr (e : CE) : CS := fun env S => (e env S).bind fun _ S1 => .ok (.next env) S1
def sIf (t : CT) (a b : List CS) : CS := fun env S => (t env S).bind fun d S1 => (match d with
  | true => seqC a env S1
  | false => seqC b env S1)
def sSet (i : Nat) (e : CE) : CS := fun env S => (e env S).bind fun w S1 => .ok (.next (env.set i (some w))) S1
def sCell (i : Nat) (es : List CE) : CS := fun env S => (mapC es env S).bind fun ws S1 => guard' (small ws.length) (.ok (.next (env.set i (some (.ref S1.length)))) (S1 ++ [SO.lst ws]))
def sSetT (ix : List Nat) (e : CE) : CS := fun env S => (e env S).bind fun w S1 => (match bindTs ix w env with
  | some env1 => .ok (.next env1) S1
  | none => .bad)
def sAug (i : Nat) (e : CE) : CS := fun env S => (match env[i]? with
  | some (some (.int a)) => (e env S).bind fun w S1 => (match w with
    | .int b => .ok (.next (env.set i (some (.int (a + b))))) S1
    | _ => .bad)
  | _ => .bad)
def sAugIx (o i e : CE) : CS := fun env S => (o env S).bind fun x S1 => (i env S1).bind fun y S2 => (match x, y with
  | .ref n, .int k => (match S2[n]? with
    | some (.lst ws) => (match decide (0 ≤ k ∧ k < 2 ^ 62), ws[k.toNat]? with
      | true, some (.int a) => (e env S2).bind fun w S3 => (match w, S3[n]? with
        | .int b, some (.lst ws') => guard' (decide (k.toNat < ws'.length)) (.ok (.next env) (S3.set n (SO.lst (ws'.set k.toNat (.int (a + b))))))
        | _, _ => .bad)
      | _, _ => .bad)
    | none => .bad)
  | _, _ => .bad)
def sFor (bnd : W → Env' → Option Env') (iter : CI) (body : List CS) : CS := fun env S => (iter env S).bind fun items S1 => forR (fun env S => seqC body env S) bnd items env S1
def sWhile (t : CT) (body : List CS) : CS := fun env S => whileR (fun env S => t env S) (fun env S => seqC body env S) 100000 env S
end Mi

set_option Elab.async false
set_option linter.all false
set_option maxRecDepth 100000
set_option maxHeartbeats 4000000
/-! Mi13: reckoning with the evaluator's words; the laws' draws. -/
namespace Mi
open PySem PySem.Spec PyProof.Rows L2
section
variable {α β : Type} {S : Sto}
@[simp] theorem bind_ok {a : α} {f : α → Sto → R β} : (R.ok a S).bind f = f a S := rfl
@[simp] theorem bind_bad {f : α → Sto → R β} : (R.bad).bind f = .bad := rfl
@[simp] theorem bind_exc {c : Str} {fs : List (Str × W)} {e : Env'} {f : α → Sto → R β} : (R.exc c fs e S).bind f = .exc c fs e S := rfl
@[simp] theorem lift_some {a : α} : lift (some a) S = .ok a S := rfl
@[simp] theorem guard_true {r : R α} : guard' true r = r := rfl
@[simp] theorem noExc_ok {a : α} : noExc (R.ok a S) = .ok a S := rfl
end
@[simp] theorem exitW_same {S : Sto} {w : W} : exitW S.length w S = .ok w S := if_pos rfl
theorem exitR_ret {S : Sto} {w : W} : exitR S.length (.ok (.ret w) S) = .ok w S := exitW_same
theorem exitR_next {S : Sto} {env : Env'} : exitR S.length (.ok (.next env) S) = .ok .non S := exitW_same
end Mi

set_option Elab.async false
set_option linter.all false
set_option maxRecDepth 100000
set_option maxHeartbeats 4000000
/-! Mi14: the laws' draws. -/
namespace Mi
open PySem PySem.Spec PyProof.Rows L2
def cLawNumber : List CS := [sSetT [2, 3] (xIf (cCmp .NotEq (xV 0) (xLst [])) (xTup [(xIx (xV 0) (xBin .Mod (xV 1) (xBlt "len" [(xV 0)]))), (xBin .FloorDiv (xV 1) (xBlt "len" [(xV 0)]))]) (xTup [(xC (.int 12345)), (xC (.int 0))])),
    sSet 4 (xIf (cCmp .Lt (xV 3) (xC (.int 60))) (xBin .Sub (xV 2) (xBin .Pow (xC (.int 10)) (xC (.int 18)))) (xC (.int 0))),
    sFor (bN 5) (iRng1 (xBin .Mod (xBlt "int" [(xV 3)]) (xC (.int 60)))) [sSet 4 (xBin .FloorDiv (xV 4) (xC (.int 1009)))],
    sIf (cCmp .Gt (xV 4) (xC (.int 0))) [sRet (xBin .Mod (xBlt "int" [(xV 4)]) (xC (.int 1009)))] [],
    sSet 6 (xBin .Mod (xBin .Add (xBin .Mult (xBlt "int" [(xBin .Add (xV 2) (xBin .Mult (xC (.int 977)) (xV 1)))]) (xC (.int 48271))) (xBin .Mult (xC (.int 31)) (xBlt "len" [(xV 0)]))) (xC (.int 2147483647))),
    sSet 6 (xBin .Mod (xBin .Add (xBin .Mult (xV 6) (xV 6)) (xBin .Mult (xC (.int 40503)) (xV 1))) (xC (.int 2147483629))),
    sRet (xBlt "int" [(xBin .Mod (xBin .Add (xBin .Mult (xV 6) (xC (.int 69621))) (xBin .FloorDiv (xV 6) (xC (.int 977)))) (xC (.int 2147483587)))])]
theorem bcall_int (S : Sto) (i : Int) : bcall S "int" [.int i] = some (.int i) := rfl
theorem bcall_len (S : Sto) (w : W) : bcall S "len" [w] = (lenW S w).map .int := rfl
section
variable {S : Sto} {a b : Int}
theorem b_add : binop S .Add (.int a) (.int b) = some (.int (a + b)) := rfl
theorem b_sub : binop S .Sub (.int a) (.int b) = some (.int (a - b)) := rfl
theorem b_mod (h : 0 < b) : binop S .Mod (.int a) (.int b) = some (.int (a % b)) := if_pos h
theorem b_fdv (h : 0 < b ∧ b < 1073741824) : binop S .FloorDiv (.int a) (.int b) = some (.int (a / b)) := if_pos h
theorem b_mul (h : (-(2 ^ 64) < a ∧ a < 2 ^ 64) ∨ (-(2 ^ 64) < b ∧ b < 2 ^ 64)) : binop S .Mult (.int a) (.int b) = some (.int (a * b)) := if_pos h
theorem b_pow (h : 0 ≤ b ∧ b ≤ 1000000 ∧ a.natAbs < 2 ^ 64) : binop S .Pow (.int a) (.int b) = some (.int (a ^ b.toNat)) := if_pos h
end
theorem toDs_ints : ∀ ns : List Int, toDs (ns.map W.int) = some (ns.map PyData.int)
  | [] => rfl
  | n :: r => by
    rw [List.map_cons, toDs, toDs_ints r]
    rfl
theorem lay_ints : ∀ ns : List Int, PyData.canLayAll0 (ns.map PyData.int) = true
  | [] => rfl
  | n :: r => by
    rw [List.map_cons, PyData.canLayAll0, lay_ints r]
    rfl
theorem depth_ints : ∀ ns : List Int, PyData.depthAll (ns.map PyData.int) ≤ 1
  | [] => by simp [PyData.depthAll]
  | n :: r => by
    have := depth_ints r
    simp [PyData.depthAll, PyData.depth] at *
    omega
theorem shaped_ints (ns : List Int) : SeqAt.shaped (.list (ns.map PyData.int)) = true := by
  unfold SeqAt.shaped
  have h1 : PyData.canLay0 (.list (ns.map PyData.int)) = true := by rw [PyData.canLay0]; exact lay_ints ns
  have h2 : PyData.depth (.list (ns.map PyData.int)) ≤ 64 := by
    have := depth_ints ns
    rw [PyData.depth]
    omega
  rw [h1, decide_eq_true h2]
  rfl
theorem eq_nil (S : Sto) (ns : List Int) : eqS S (.frl (ns.map W.int)) (.lst []) = some ns.isEmpty := by
  have h1 : datS S (.frl (ns.map W.int)) = some (.list (ns.map PyData.int)) := by
    show toD (.frl (ns.map W.int)) = _
    rw [toD, toDs_ints]
    rfl
  have h2 : datS S (.lst []) = some (.list []) := rfl
  unfold eqS
  rw [if_neg (show ¬ scalW (.frl (ns.map W.int)) (.lst []) = true from fun z => by cases z), h1, h2]
  show (if _ then _ else _) = _
  rw [if_pos ⟨shaped_ints ns, shaped_ints []⟩]
  cases ns with
  | nil => rfl
  | cons n r => rfl
/-- the loop that goes down the digits -/
theorem digits (S : Sto) (a b c e : Option W) (f : Option W) : ∀ (items : List W) (r : Int) (x : Option W), ∃ (r' : Int) (x' : Option W),
    forR (fun env S => seqC [sSet 4 (xBin .FloorDiv (xV 4) (xC (.int 1009)))] env S) (bN 5) items [a, b, c, e, some (.int r), x, f] S = .ok (.next [a, b, c, e, some (.int r'), x', f]) S
  | [], r, x => ⟨r, x, rfl⟩
  | w :: ws, r, x => by
    obtain ⟨r', x', h⟩ := digits S a b c e f ws (r / 1009) (some w)
    refine ⟨r', x', ?_⟩
    rw [← h]
    rfl
theorem lawNumber_rest (S : Sto) (sc : List W) (hs : sc.length ≤ 63) (idx c t : Int) (ht : 0 ≤ t) (x4 x5 x6 : Option W) : ∃ r : Int, 0 ≤ r ∧
    seqC (cLawNumber.drop 1) [some (.frl sc), some (.int idx), some (.int c), some (.int t), x4, x5, x6] S = .ok (.ret (.int r)) S := by
  unfold cLawNumber
  show ∃ r : Int, 0 ≤ r ∧ seqC [_, _, _, _, _, _] _ _ = _
  have step1 : ∃ r0 : Int, sSet 4 (xIf (cCmp .Lt (xV 3) (xC (.int 60))) (xBin .Sub (xV 2) (xBin .Pow (xC (.int 10)) (xC (.int 18)))) (xC (.int 0))) [some (.frl sc), some (.int idx), some (.int c), some (.int t), x4, x5, x6] S =
      .ok (.next [some (.frl sc), some (.int idx), some (.int c), some (.int t), some (.int r0), x5, x6]) S := by
    by_cases h : t < 60
    · refine ⟨c - 10 ^ 18, ?_⟩
      have e : cCmp .Lt (xV 3) (xC (.int 60)) [some (.frl sc), some (.int idx), some (.int c), some (.int t), x4, x5, x6] S = .ok true S := by
        show lift (some (decide (t < 60))) S = _
        rw [decide_eq_true h]; rfl
      unfold sSet xIf
      rw [e]
      rfl
    · refine ⟨0, ?_⟩
      have e : cCmp .Lt (xV 3) (xC (.int 60)) [some (.frl sc), some (.int idx), some (.int c), some (.int t), x4, x5, x6] S = .ok false S := by
        show lift (some (decide (t < 60))) S = _
        rw [decide_eq_false h]; rfl
      unfold sSet xIf
      rw [e]
      rfl
  obtain ⟨r0, e1⟩ := step1
  rw [seqC, e1]
  have step2 : ∃ (r1 : Int) (x5' : Option W), sFor (bN 5) (iRng1 (xBin .Mod (xBlt "int" [(xV 3)]) (xC (.int 60)))) [sSet 4 (xBin .FloorDiv (xV 4) (xC (.int 1009)))] [some (.frl sc), some (.int idx), some (.int c), some (.int t), some (.int r0), x5, x6] S =
      .ok (.next [some (.frl sc), some (.int idx), some (.int c), some (.int t), some (.int r1), x5', x6]) S := by
    have e : iRng1 (xBin .Mod (xBlt "int" [(xV 3)]) (xC (.int 60))) [some (.frl sc), some (.int idx), some (.int c), some (.int t), some (.int r0), x5, x6] S = .ok ((List.range (t % 60).toNat).map fun i : Nat => W.int ((0 : Int) + (i : Int))) S := by
      have h1 : (0 : Int) ≤ t % 60 := Int.emod_nonneg _ (by decide)
      have h2 : t % 60 < 60 := Int.emod_lt_of_pos _ (by decide)
      show guard' (decide (-(2 ^ 62) ≤ t % 60 ∧ t % 60 < 2 ^ 62)) _ = _
      rw [decide_eq_true (by omega)]
      rfl
    obtain ⟨r', x', h⟩ := digits S (some (.frl sc)) (some (.int idx)) (some (.int c)) (some (.int t)) x6 ((List.range (t % 60).toNat).map fun i : Nat => W.int ((0 : Int) + (i : Int))) r0 x5
    exact ⟨r', x', by unfold sFor; rw [e]; exact h⟩
  obtain ⟨r1, x5', e2⟩ := step2
  rw [bind_ok]
  show ∃ r : Int, 0 ≤ r ∧ seqC [_, _, _, _, _] _ _ = _
  rw [seqC, e2, bind_ok]
  show ∃ r : Int, 0 ≤ r ∧ seqC [_, _, _, _] _ _ = _
  by_cases h : 0 < r1
  · refine ⟨r1 % 1009, Int.emod_nonneg _ (by decide), ?_⟩
    have e : cCmp .Gt (xV 4) (xC (.int 0)) [some (.frl sc), some (.int idx), some (.int c), some (.int t), some (.int r1), x5', x6] S = .ok true S := by
      show lift (some (decide (0 < r1))) S = _
      rw [decide_eq_true h]; rfl
    rw [seqC]
    unfold sIf
    rw [e]
    rfl
  · have e : cCmp .Gt (xV 4) (xC (.int 0)) [some (.frl sc), some (.int idx), some (.int c), some (.int t), some (.int r1), x5', x6] S = .ok false S := by
      show lift (some (decide (0 < r1))) S = _
      rw [decide_eq_false h]; rfl
    rw [seqC]
    unfold sIf
    rw [e, bind_ok]
    show ∃ r : Int, 0 ≤ r ∧ seqC [_, _, _] _ _ = _
    let bl := ((c + 977 * idx) * 48271 + 31 * (sc.length : Int)) % 2147483647
    have hb1 : 0 ≤ bl := Int.emod_nonneg _ (by decide)
    have hb2 : bl < 2147483647 := Int.emod_lt_of_pos _ (by decide)
    let bl2 := (bl * bl + 40503 * idx) % 2147483629
    have hc1 : 0 ≤ bl2 := Int.emod_nonneg _ (by decide)
    have hc2 : bl2 < 2147483629 := Int.emod_lt_of_pos _ (by decide)
    refine ⟨(bl2 * 69621 + bl2 / 977) % 2147483587, Int.emod_nonneg _ (by decide), ?_⟩
    have s3 : sSet 6 (xBin .Mod (xBin .Add (xBin .Mult (xBlt "int" [(xBin .Add (xV 2) (xBin .Mult (xC (.int 977)) (xV 1)))]) (xC (.int 48271))) (xBin .Mult (xC (.int 31)) (xBlt "len" [(xV 0)]))) (xC (.int 2147483647)))
        [some (.frl sc), some (.int idx), some (.int c), some (.int t), some (.int r1), x5', x6] S = .ok (.next [some (.frl sc), some (.int idx), some (.int c), some (.int t), some (.int r1), x5', some (.int bl)]) S := by
      simp only [sSet, xBin, xBlt, xC, mapC, bind_ok, xV, List.getElem?_cons_succ, List.getElem?_cons_zero, b_add, lift_some, bcall_int, bcall_len]
      rw [b_mul (.inl (by decide))]
      simp only [bind_ok, lift_some, b_add, bcall_int]
      rw [b_mul (.inr (by decide))]
      simp only [bind_ok, lift_some, lenW, seqL, Option.map_some]
      rw [b_mul (.inl (by decide))]
      simp only [bind_ok, lift_some, b_add]
      rw [b_mod (by decide)]
      rfl
    have s4 : sSet 6 (xBin .Mod (xBin .Add (xBin .Mult (xV 6) (xV 6)) (xBin .Mult (xC (.int 40503)) (xV 1))) (xC (.int 2147483629)))
        [some (.frl sc), some (.int idx), some (.int c), some (.int t), some (.int r1), x5', some (.int bl)] S = .ok (.next [some (.frl sc), some (.int idx), some (.int c), some (.int t), some (.int r1), x5', some (.int bl2)]) S := by
      simp only [sSet, xBin, xBlt, xC, mapC, bind_ok, xV, List.getElem?_cons_succ, List.getElem?_cons_zero]
      rw [b_mul (.inl (by omega))]
      simp only [bind_ok, lift_some]
      rw [b_mul (.inl (by decide))]
      simp only [bind_ok, lift_some, b_add]
      rw [b_mod (by decide)]
      rfl
    rw [seqC, s3, bind_ok]
    show seqC [_, _] _ _ = _
    rw [seqC, s4, bind_ok]
    show seqC [_] _ _ = _
    simp only [seqC, sRet, xBin, xBlt, xC, mapC, bind_ok, xV, List.getElem?_cons_succ, List.getElem?_cons_zero]
    rw [b_mul (.inl (by omega))]
    simp only [bind_ok, lift_some]
    rw [b_fdv (by decide)]
    simp only [bind_ok, lift_some, b_add]
    rw [b_mod (by decide)]
    rfl
theorem lawNumber_ok (S : Sto) (ns : List Int) (hs : ns.length ≤ 63) (idx : Int) (hi : 0 ≤ idx) : ∃ r : Int, 0 ≤ r ∧
    seqC cLawNumber [some (.frl (ns.map W.int)), some (.int idx), none, none, none, none, none] S = .ok (.ret (.int r)) S := by
  have s1 : ∃ c t : Int, 0 ≤ t ∧ sSetT [2, 3] (xIf (cCmp .NotEq (xV 0) (xLst [])) (xTup [(xIx (xV 0) (xBin .Mod (xV 1) (xBlt "len" [(xV 0)]))), (xBin .FloorDiv (xV 1) (xBlt "len" [(xV 0)]))]) (xTup [(xC (.int 12345)), (xC (.int 0))]))
      [some (.frl (ns.map W.int)), some (.int idx), none, none, none, none, none] S = .ok (.next [some (.frl (ns.map W.int)), some (.int idx), some (.int c), some (.int t), none, none, none]) S := by
    have e : cCmp .NotEq (xV 0) (xLst []) [some (.frl (ns.map W.int)), some (.int idx), none, none, none, none, none] S = .ok (!ns.isEmpty) S := by
      show lift ((eqS S (.frl (ns.map W.int)) (.lst [])).map (!·)) S = _
      rw [eq_nil]
      rfl
    cases hn : ns with
    | nil =>
      refine ⟨12345, 0, by decide, ?_⟩
      rw [hn] at e
      unfold sSetT xIf
      rw [e]
      rfl
    | cons n r =>
      have hl : 0 < ((ns.map W.int).length : Int) := by rw [hn]; simp
      have hl2 : ((ns.map W.int).length : Int) ≤ 63 := by rw [List.length_map]; omega
      have h1 : 0 ≤ idx % ((ns.map W.int).length : Int) := Int.emod_nonneg _ (by omega)
      have h2 : idx % ((ns.map W.int).length : Int) < ((ns.map W.int).length : Int) := Int.emod_lt_of_pos _ hl
      obtain ⟨k, hk⟩ : ∃ k : Nat, idx % ((ns.map W.int).length : Int) = k := ⟨(idx % ((ns.map W.int).length : Int)).toNat, by omega⟩
      have hk2 : k < ns.length := by
        rw [hk] at h2
        simpa using h2
      have at_ : atI (ns.map W.int) (k : Int) = some (.int ns[k]) := atI_nat (by simp [hk2])
      refine ⟨ns[k], idx / ((ns.map W.int).length : Int), Int.ediv_nonneg hi (by omega), ?_⟩
      rw [← hn]
      have e' : cCmp .NotEq (xV 0) (xLst []) [some (.frl (ns.map W.int)), some (.int idx), none, none, none, none, none] S = .ok true S := by
        rw [e, hn]
        rfl
      unfold sSetT xIf
      rw [e', bind_ok]
      simp only [xTup, xIx, xBin, xBlt, xC, mapC, bind_ok, xV, List.getElem?_cons_succ, List.getElem?_cons_zero, bcall_len, lenW, seqL, Option.map_some, lift_some]
      rw [b_mod hl]
      simp only [lift_some, bind_ok]
      rw [hk]
      have ix : ixS S (.frl (ns.map W.int)) (.int (k : Int)) = some (.int ns[k]) := at_
      rw [ix]
      simp only [lift_some, bind_ok]
      rw [b_fdv ⟨hl, by omega⟩]
      rfl
  obtain ⟨c, t, ht, e⟩ := s1
  obtain ⟨r, hr, h⟩ := lawNumber_rest S (ns.map W.int) (by simpa using hs) idx c t ht none none none
  refine ⟨r, hr, ?_⟩
  rw [← h]
  unfold cLawNumber
  rw [seqC, e]
  rfl
end Mi

set_option Elab.async false
set_option linter.all false
set_option maxRecDepth 100000
set_option maxHeartbeats 4000000
/-! Mi15: the laws' draws, called. -/
namespace Mi
open PySem PySem.Spec PyProof.Rows L2
def cLawTake (cl : Cl) : List CS := [sAugIx (xV 0) (xC (.int 1)) (xC (.int 1)),
    sRet (xBin .Mod (xBlt "int" [(xCall cl "_law_number" 2 [(xIx (xV 0) (xC (.int 0))), (xBlt "int" [(xIx (xV 0) (xC (.int 1)))])])]) (xV 1))]
def cLawPick (cl : Cl) : List CS := [sRet (xIx (xV 1) (xCall cl "_law_take" 2 [(xV 0), (xBlt "len" [(xV 1)])]))]
structure Draws (pg : Pg) (fns : Str → Option Fn) : Prop where
  num : ∃ F, fns "_law_number" = some F ∧ F.P = 2 ∧ ∀ cl ws S, bodyR pg cl F ws S = seqC cLawNumber (startE ["script", "index", "cell", "turn", "rest", "step", "blend"] ws) S
  take : ∃ F, fns "_law_take" = some F ∧ F.P = 2 ∧ ∀ cl ws S, bodyR pg cl F ws S = seqC (cLawTake cl) (startE ["draw", "many"] ws) S
  pick : ∃ F, fns "_law_pick" = some F ∧ F.P = 2 ∧ ∀ cl ws S, bodyR pg cl F ws S = seqC (cLawPick cl) (startE ["draw", "items"] ws) S
/-- a call, by its def's body -/
theorem callD_of {pg : Pg} {fns : Str → Option Fn} {d : Nat} {f : Str} {F : Fn} {ws : List W} {S : Sto} (hf : fns f = some F) (hl : ws.length = F.P) : callD pg fns (d + 1) f ws S = exitR S.length (bodyR pg (callD pg fns d) F ws S) := by
  rw [callD, hf]
  show guard' (decide (ws.length = F.P)) _ = _
  rw [decide_eq_true hl]
  rfl
theorem ixS_cell {S : Sto} {k : Nat} {xs : List W} {i : Int} (h : S[k]? = some (.lst xs)) : ixS S (.ref k) (.int i) = atI xs i := by
  unfold ixS seqL
  dsimp only
  rw [h]
/-- the cell of a draw -/
def drawO (ns : List Int) (n : Int) : SO := .lst [.frl (ns.map W.int), .int n]
section
variable {pg : Pg} {fns : Str → Option Fn} (D : Draws pg fns)
include D
theorem num_ok (d : Nat) (S : Sto) (ns : List Int) (hs : ns.length ≤ 63) (idx : Int) (hi : 0 ≤ idx) : ∃ r : Int, 0 ≤ r ∧ callD pg fns (d + 1) "_law_number" [.frl (ns.map W.int), .int idx] S = .ok (.int r) S := by
  obtain ⟨F, h1, h2, h3⟩ := D.num
  obtain ⟨r, hr, e⟩ := lawNumber_ok S ns hs idx hi
  refine ⟨r, hr, ?_⟩
  rw [callD_of h1 (by rw [h2]; rfl), h3]
  have e' : startE ["script", "index", "cell", "turn", "rest", "step", "blend"] [.frl (ns.map W.int), .int idx] = [some (.frl (ns.map W.int)), some (.int idx), none, none, none, none, none] := rfl
  rw [e', e, exitR_ret]
theorem take_ok (d : Nat) (S : Sto) (k : Nat) (ns : List Int) (n m : Int) (hs : ns.length ≤ 63) (hn : 0 ≤ n) (hm : 0 < m) (hk : S[k]? = some (drawO ns n)) :
    ∃ r : Int, 0 ≤ r ∧ r < m ∧ callD pg fns (d + 2) "_law_take" [.ref k, .int m] S = .ok (.int r) (S.set k (drawO ns (n + 1))) := by
  obtain ⟨F, h1, h2, h3⟩ := D.take
  obtain ⟨r, hr, e⟩ := num_ok D d (S.set k (drawO ns (n + 1))) ns hs (n + 1) (by omega)
  refine ⟨r % m, Int.emod_nonneg _ (by omega), Int.emod_lt_of_pos _ hm, ?_⟩
  rw [callD_of h1 (by rw [h2]; rfl), h3]
  have e' : startE ["draw", "many"] [.ref k, .int m] = [some (.ref k), some (.int m)] := rfl
  rw [e', cLawTake, seqC]
  have hkl : k < S.length := (List.getElem?_eq_some_iff.mp hk).1
  have s1 : sAugIx (xV 0) (xC (.int 1)) (xC (.int 1)) [some (.ref k), some (.int m)] S = .ok (.next [some (.ref k), some (.int m)]) (S.set k (drawO ns (n + 1))) := by
    unfold sAugIx
    simp only [xV, xC, List.getElem?_cons_zero, bind_ok, hk, drawO]
    rfl
  have hk2 : (S.set k (drawO ns (n + 1)))[k]? = some (drawO ns (n + 1)) := List.getElem?_set_self hkl
  rw [s1, bind_ok]
  have i0 : ixS (S.set k (drawO ns (n + 1))) (.ref k) (.int 0) = some (.frl (ns.map W.int)) := by
    rw [ixS_cell hk2]
    rfl
  have i1 : ixS (S.set k (drawO ns (n + 1))) (.ref k) (.int 1) = some (.int (n + 1)) := by
    rw [ixS_cell hk2]
    rfl
  show exitR S.length (seqC [_] _ _) = _
  rw [seqC]
  have s2 : sRet (xBin .Mod (xBlt "int" [(xCall (callD pg fns (d + 1)) "_law_number" 2 [(xIx (xV 0) (xC (.int 0))), (xBlt "int" [(xIx (xV 0) (xC (.int 1)))])])]) (xV 1)) [some (.ref k), some (.int m)] (S.set k (drawO ns (n + 1))) = .ok (.ret (.int (r % m))) (S.set k (drawO ns (n + 1))) := by
    simp only [sRet, xBin, xBlt, xCall, xIx, mapC, xV, xC, List.getElem?_cons_zero, List.getElem?_cons_succ, bind_ok, i0, i1, lift_some, bcall_int]
    simp only [show decide (([W.frl (ns.map W.int), W.int (n+1)] : List W).length = 2) = true from rfl, guard_true, e, bind_ok, bcall_int, lift_some]
    rw [b_mod hm]
    rfl
  rw [s2, bind_ok]
  show exitW S.length _ _ = _
  unfold exitW
  rw [if_pos (by simp)]
theorem pick_ok (d : Nat) (S : Sto) (k : Nat) (ns : List Int) (n : Int) (xs : List W) (hs : ns.length ≤ 63) (hn : 0 ≤ n) (hx : 0 < xs.length) (hk : S[k]? = some (drawO ns n)) :
    ∃ (i : Nat) (h : i < xs.length), callD pg fns (d + 3) "_law_pick" [.ref k, .lst xs] S = .ok xs[i] (S.set k (drawO ns (n + 1))) := by
  obtain ⟨F, h1, h2, h3⟩ := D.pick
  obtain ⟨r, hr, hr2, e⟩ := take_ok D d S k ns n (xs.length : Int) hs hn (by omega) hk
  have hi : r.toNat < xs.length := by omega
  refine ⟨r.toNat, hi, ?_⟩
  rw [callD_of h1 (by rw [h2]; rfl), h3]
  have e' : startE ["draw", "items"] [.ref k, .lst xs] = [some (.ref k), some (.lst xs)] := rfl
  rw [e', cLawPick, seqC]
  have ix : ixS (S.set k (drawO ns (n + 1))) (.lst xs) (.int r) = some xs[r.toNat] := by
    show atI xs r = _
    have z := atI_nat (xs := xs) (j := r.toNat) (v := xs[r.toNat]) (by simp [hi])
    rw [show ((r.toNat : Nat) : Int) = r by omega] at z
    exact z
  have s2 : sRet (xIx (xV 1) (xCall (callD pg fns (d + 2)) "_law_take" 2 [(xV 0), (xBlt "len" [(xV 1)])])) [some (.ref k), some (.lst xs)] S = .ok (.ret xs[r.toNat]) (S.set k (drawO ns (n + 1))) := by
    simp only [sRet, xBlt, xCall, xIx, mapC, xV, xC, List.getElem?_cons_zero, List.getElem?_cons_succ, bind_ok, lift_some, bcall_len, lenW, seqL, Option.map_some]
    simp only [show decide (([W.ref k, W.int (xs.length : Int)] : List W).length = 2) = true from rfl, guard_true, e, bind_ok, ix, lift_some]
  rw [s2, bind_ok]
  show exitW S.length _ _ = _
  unfold exitW
  rw [if_pos (by simp)]
end
end Mi

set_option Elab.async false
set_option linter.all false
set_option maxRecDepth 100000
set_option maxHeartbeats 4000000
/-! Mi16: sequences, comprehensions, loops: general laws of the evaluator's words. -/
namespace Mi
open PySem PySem.Spec PyProof.Rows L2
def contC (B : List CS) : Out' → Sto → R Out'
  | .next e, S => seqC B e S
  | .ret w, S => .ok (.ret w) S
  | .brk e, S => .ok (.brk e) S
  | .cont e, S => .ok (.cont e) S
theorem seqC_app (B : List CS) : ∀ (A : List CS) (env : Env') (S : Sto), seqC (A ++ B) env S = (seqC A env S).bind (contC B)
  | [], env, S => rfl
  | a :: A, env, S => by
    rw [List.cons_append, seqC, seqC]
    cases h : a env S with
    | ok o S1 =>
      rw [bind_ok, bind_ok]
      cases o with
      | next e => exact seqC_app B A e S1
      | ret w => rfl
      | brk e => rfl
      | cont e => rfl
    | exc c fs e S1 => rfl
    | bad => rfl
theorem seqC_next {a : CS} {A : List CS} {env env' : Env'} {S S' : Sto} (h : a env S = .ok (.next env') S') : seqC (a :: A) env S = seqC A env' S' := by
  rw [seqC, h]
  rfl
theorem seqC_ret {a : CS} {A : List CS} {env : Env'} {w : W} {S S' : Sto} (h : a env S = .ok (.ret w) S') : seqC (a :: A) env S = .ok (.ret w) S' := by
  rw [seqC, h]
  rfl
theorem lcR_map {step : W → Sto → R (Option W)} {f : W → W} {S : Sto} : ∀ (items acc : List W), acc.length + items.length ≤ 100000 → (∀ w ∈ items, step w S = .ok (some (f w)) S) → lcR step items acc S = .ok (.lst (acc ++ items.map f)) S
  | [], acc, hl, h => by rw [lcR, List.map_nil, List.append_nil]
  | w :: ws, acc, hl, h => by
    rw [List.length_cons] at hl
    rw [lcR, h w (List.mem_cons_self ..)]
    show guard' (decide (acc.length + 1 ≤ 100000)) (lcR step ws (acc ++ [f w]) S) = _
    rw [decide_eq_true (by omega), guard_true, lcR_map ws _ (by simp; omega) fun w' q => h w' (List.mem_cons_of_mem _ q)]
    simp
theorem forR_same {body : Env' → Sto → R Out'} {bnd : W → Env' → Option Env'} {S : Sto} {I : Env' → Prop} : ∀ (items : List W) (env : Env'), I env →
    (∀ w ∈ items, ∀ env, I env → ∃ e1 e2, bnd w env = some e1 ∧ body e1 S = .ok (.next e2) S ∧ I e2) → ∃ e, forR body bnd items env S = .ok (.next e) S ∧ I e
  | [], env, i, _ => ⟨env, rfl, i⟩
  | w :: ws, env, i, h => by
    obtain ⟨e1, e2, h1, h2, h3⟩ := h w (List.mem_cons_self ..) env i
    obtain ⟨e, h4, h5⟩ := forR_same ws e2 h3 fun w' q => h w' (List.mem_cons_of_mem _ q)
    refine ⟨e, ?_, h5⟩
    rw [forR, h1]
    show (body e1 S).bind _ = _
    rw [h2]
    exact h4
theorem bools_true {α : Type} : ∀ (xs : List α), bools (xs.map fun _ => W.bl true) = some (xs.map fun _ => true)
  | [] => rfl
  | x :: r => by
    rw [List.map_cons, bools, bools_true r]
    rfl
theorem all_true {α : Type} (S : Sto) (xs : List α) : bcall S "all" [.lst (xs.map fun _ => W.bl true)] = some (.bl true) := by
  show (bools (xs.map fun _ => W.bl true)).map (fun bs => W.bl (bs.all id)) = _
  rw [bools_true]
  show some (W.bl _) = _
  congr 2
  induction xs with
  | nil => rfl
  | cons x r ih => exact ih
/-! ### rules: one step each -/
theorem sRet_ok {e : CE} {env : Env'} {S S' : Sto} {w : W} (h : e env S = .ok w S') : sRet e env S = .ok (.ret w) S' := by
  unfold sRet
  rw [h]
  rfl
theorem sSet_ok {i : Nat} {e : CE} {env : Env'} {S S' : Sto} {w : W} (h : e env S = .ok w S') : sSet i e env S = .ok (.next (env.set i (some w))) S' := by
  unfold sSet
  rw [h]
  rfl
theorem sExpr_ok {e : CE} {env : Env'} {S S' : Sto} {w : W} (h : e env S = .ok w S') : sExpr e env S = .ok (.next env) S' := by
  unfold sExpr
  rw [h]
  rfl
theorem xIf_t {t : CT} {a b : CE} {env : Env'} {S S1 : Sto} {r : R W} (h : t env S = .ok true S1) (h2 : a env S1 = r) : xIf t a b env S = r := by
  unfold xIf
  rw [h]
  exact h2
theorem xIf_f {t : CT} {a b : CE} {env : Env'} {S S1 : Sto} {r : R W} (h : t env S = .ok false S1) (h2 : b env S1 = r) : xIf t a b env S = r := by
  unfold xIf
  rw [h]
  exact h2
theorem sIf_t {t : CT} {a b : List CS} {env : Env'} {S S1 : Sto} {r : R Out'} (h : t env S = .ok true S1) (h2 : seqC a env S1 = r) : sIf t a b env S = r := by
  unfold sIf
  rw [h]
  exact h2
theorem sIf_f {t : CT} {a b : List CS} {env : Env'} {S S1 : Sto} {r : R Out'} (h : t env S = .ok false S1) (h2 : seqC b env S1 = r) : sIf t a b env S = r := by
  unfold sIf
  rw [h]
  exact h2
theorem xCall_ok {cl : Cl} {f : Str} {n : Nat} {args : List CE} {env : Env'} {S S1 S2 : Sto} {ws : List W} {w : W} (h : mapC args env S = .ok ws S1) (hn : ws.length = n) (h2 : cl f ws S1 = .ok w S2) : xCall cl f n args env S = .ok w S2 := by
  unfold xCall
  rw [h, bind_ok, decide_eq_true hn, guard_true, h2]
theorem xBlt_ok {f : Str} {args : List CE} {env : Env'} {S S1 : Sto} {ws : List W} {w : W} (h : mapC args env S = .ok ws S1) (h2 : bcall S1 f ws = some w) : xBlt f args env S = .ok w S1 := by
  unfold xBlt
  rw [h, bind_ok, h2]
  rfl
theorem mapC_cons {c : CE} {cs : List CE} {env : Env'} {S S1 S2 : Sto} {w : W} {ws : List W} (h : c env S = .ok w S1) (h2 : mapC cs env S1 = .ok ws S2) : mapC (c :: cs) env S = .ok (w :: ws) S2 := by
  rw [mapC, h, bind_ok, h2]
  rfl
theorem xBin_ok {op : Operator} {a b : CE} {env : Env'} {S S1 S2 : Sto} {x y w : W} (h1 : a env S = .ok x S1) (h2 : b env S1 = .ok y S2) (h : binop S2 op x y = some w) : xBin op a b env S = .ok w S2 := by
  unfold xBin
  rw [h1, bind_ok, h2, bind_ok, h]
  rfl
theorem xCmp_ok {op : CmpOp} {a b : CE} {env : Env'} {S S1 S2 : Sto} {x y : W} {c : Bool} (h1 : a env S = .ok x S1) (h2 : b env S1 = .ok y S2) (h : cmpop S2 op x y = some c) : xCmp op a b env S = .ok (.bl c) S2 := by
  unfold xCmp
  rw [h1, bind_ok, h2, bind_ok, h]
  rfl
theorem cCmp_ok {op : CmpOp} {a b : CE} {env : Env'} {S S1 S2 : Sto} {x y : W} {c : Bool} (h1 : a env S = .ok x S1) (h2 : b env S1 = .ok y S2) (h : cmpop S2 op x y = some c) : cCmp op a b env S = .ok c S2 := by
  unfold cCmp
  rw [h1, bind_ok, h2, bind_ok, h]
  rfl
theorem cTru_ok {a : CE} {env : Env'} {S S1 : Sto} {w : W} {c : Bool} (h1 : a env S = .ok w S1) (h : truth S1 w = some c) : cTru a env S = .ok c S1 := by
  unfold cTru
  rw [h1, bind_ok, h]
  rfl
theorem cNot_ok {a : CT} {env : Env'} {S S1 : Sto} {c : Bool} (h1 : a env S = .ok c S1) : cNot a env S = .ok (!c) S1 := by
  unfold cNot
  rw [h1]
  rfl
theorem xIx_ok {a i : CE} {env : Env'} {S S1 S2 : Sto} {x y w : W} (h1 : a env S = .ok x S1) (h2 : i env S1 = .ok y S2) (h : ixS S2 x y = some w) : xIx a i env S = .ok w S2 := by
  unfold xIx
  rw [h1, bind_ok, h2, bind_ok, h]
  rfl
theorem sFor_ok {bnd : W → Env' → Option Env'} {iter : CI} {body : List CS} {env : Env'} {S S1 : Sto} {items : List W} {r : R Out'} (h : iter env S = .ok items S1) (h2 : forR (fun env S => seqC body env S) bnd items env S1 = r) : sFor bnd iter body env S = r := by
  unfold sFor
  rw [h]
  exact h2
theorem xLc_ok {i : Nat} {iter : CI} {elt : CE} {env : Env'} {S : Sto} {items : List W} (f : W → W) (h : iter env S = .ok items S) (hl : items.length ≤ 100000) (h2 : ∀ w ∈ items, elt ((wipeE env [i]).set i (some w)) S = .ok (f w) S) : xLc (bN i) [i] iter none elt env S = .ok (.lst (items.map f)) S := by
  unfold xLc
  rw [h, bind_ok, lcR_map (f := f) items [] (by rw [List.length_nil, Nat.zero_add]; exact hl), List.nil_append]
  intro w hw
  show (noExc (elt ((wipeE env [i]).set i (some w)) S)).bind _ = _
  rw [h2 w hw]
  rfl
/-- the sign and the figures of a short number, read -/
def pvD (cs : List Nat) : Int := cs.foldl (fun (a : Int) (c : Nat) => a * 10 + (Int.ofNat c - 48)) 0
def pv : List Nat → Int
  | 45 :: r => -(pvD r)
  | r => pvD r
def strI (n : Int) : Str := (toString n : String)
def numO (w : Str) : Option Int := if -99 ≤ pv w.cps.toList ∧ pv w.cps.toList ≤ 99 ∧ strI (pv w.cps.toList) = w then some (pv w.cps.toList) else none
theorem pv_all : (List.range 199).all (fun i => decide (pv (strI ((i : Int) - 99)).cps.toList = (i : Int) - 99)) = true := by decide +kernel
theorem pv_ok {n : Int} (h1 : -99 ≤ n) (h2 : n ≤ 99) : pv (strI n).cps.toList = n := by
  have z := List.all_eq_true.mp pv_all (n + 99).toNat (by rw [List.mem_range]; omega)
  have e : (((n + 99).toNat : Nat) : Int) - 99 = n := by omega
  rw [e] at z
  exact of_decide_eq_true z
theorem numO_iff {n : Int} (h1 : -99 ≤ n) (h2 : n ≤ 99) (w : Str) : strI n = w ↔ numO w = some n := by
  constructor
  · intro e
    subst e
    have := pv_ok h1 h2
    unfold numO
    rw [this, if_pos ⟨h1, h2, rfl⟩]
  · intro e
    unfold numO at e
    split at e
    · rename_i h
      injection e with e
      rw [← e]
      exact h.2.2
    · cases e
theorem bcall_str {S : Sto} {n : Int} (h : n.natAbs < 1920) : bcall S "str" [.int n] = some (.str (strI n)) := by
  unfold bcall
  rw [if_neg (by decide +kernel), if_neg (by decide +kernel), if_pos rfl]
  exact if_pos (Nat.lt_of_le_of_lt (Nat.log2_le_self _) h)
theorem strI_lens : (List.range 201).all (fun i => decide ((strI ((i : Int) - 100)).length ≤ 4)) = true := by decide +kernel
theorem strI_len {n : Int} (h1 : -100 ≤ n) (h2 : n ≤ 100) : (strI n).length ≤ 4 := by
  have z := List.all_eq_true.mp strI_lens (n + 100).toNat (by rw [List.mem_range]; omega)
  have e : (((n + 100).toNat : Nat) : Int) - 100 = n := by omega
  rw [e] at z
  exact of_decide_eq_true z
/-- is w the text of a number in lo..hi? -/
def numIn (w : Str) (lo hi : Int) : Bool := match numO w with
  | some n => decide (lo ≤ n) && decide (n ≤ hi)
  | none => false
theorem numIn_any {w : Str} {lo hi : Int} (h1 : -99 ≤ lo) (h2 : hi ≤ 99) : inW (.str w) ((List.range (hi + 1 - lo).toNat).map fun i : Nat => W.str (strI (lo + (i : Int)))) = numIn w lo hi := by
  unfold inW
  rw [List.any_map, Bool.eq_iff_iff, List.any_eq_true]
  constructor
  · intro ⟨i, hi1, hi2⟩
    rw [List.mem_range] at hi1
    have e : strI (lo + (i : Int)) = w := eq_of_beq (hi2 : (strI (lo + (i : Int)) == w) = true)
    have := (numO_iff (by omega) (by omega) w).mp e
    unfold numIn
    rw [this]
    simp only [Bool.and_eq_true, decide_eq_true_eq]
    omega
  · intro h
    unfold numIn at h
    split at h
    · rename_i n e
      simp only [Bool.and_eq_true, decide_eq_true_eq] at h
      have := (numO_iff (by omega) (by omega) w).mpr e
      refine ⟨(n - lo).toNat, by rw [List.mem_range]; omega, ?_⟩
      show (strI (lo + (((n - lo).toNat : Nat) : Int)) == w) = true
      rw [show lo + (((n - lo).toNat : Nat) : Int) = n by omega, this]
      exact beq_self_eq_true w
    · cases h
end Mi

set_option Elab.async false
set_option linter.all false
set_option maxRecDepth 100000
set_option maxHeartbeats 0
namespace K03
open PySem PySem.Spec PyProof.Rows L2 Mi
def top (i : Nat) : Stmt := PySem.Challenge.pw_switchyard_k03_types.main.body.getD i (.Pass ⟨0, 0, 0, 0⟩)
abbrev s_is_number_word : Stmt := top 2
def F_is_number_word : Fn := ⟨["word", "low", "high", "figures", "sign", "number"], 3, defBody s_is_number_word, defScope s_is_number_word, []⟩
abbrev s_is_of : Stmt := top 3
def F_is_of : Fn := ⟨["told", "word"], 2, defBody s_is_of, defScope s_is_of, []⟩
abbrev s__law_number : Stmt := top 5
def F__law_number : Fn := ⟨["script", "index", "cell", "turn", "rest", "step", "blend"], 2, defBody s__law_number, defScope s__law_number, []⟩
abbrev s__law_take : Stmt := top 6
def F__law_take : Fn := ⟨["draw", "many"], 2, defBody s__law_take, defScope s__law_take, ["draw"]⟩
abbrev s__law_pick : Stmt := top 7
def F__law_pick : Fn := ⟨["draw", "items"], 2, defBody s__law_pick, defScope s__law_pick, []⟩
abbrev s__law_is_number : Stmt := top 8
def F__law_is_number : Fn := ⟨["word", "low", "high", "number"], 3, defBody s__law_is_number, defScope s__law_is_number, []⟩
abbrev s__law_is_of : Stmt := top 9
def F__law_is_of : Fn := ⟨["kind", "word"], 2, defBody s__law_is_of, defScope s__law_is_of, []⟩
abbrev s_law : Stmt := top 10
def F_law : Fn := ⟨["script", "draw", "low", "high", "kinds", "words", "number", "kind", "word"], 1, defBody s_law, defScope s_law, ["draw"]⟩
def fnl : List (Str × Fn) := [("is_number_word", F_is_number_word), ("is_of", F_is_of), ("_law_number", F__law_number), ("_law_take", F__law_take), ("_law_pick", F__law_pick), ("_law_is_number", F__law_is_number), ("_law_is_of", F__law_is_of), ("law", F_law)]
def fns (f : Str) : Option Fn := fnl.lookup f
def csts : List (Str × W) := [("FIGURES", .str "0123456789")]
def pg : Pg := ⟨fun x => csts.lookup x, fun f => (fns f).map Fn.P, ["all", "int", "len", "min", "range", "str"]⟩
def c_is_number_word (cl : Cl) : List CS := [sSet 3 (xIf (cCmp .Eq (xSl (xV 0) none (some (xC (.int 1)))) (xC (.str "-"))) (xSl (xV 0) (some (xC (.int 1))) none) (xV 0)),
    sIf (cBool .Or [(cCmp .Eq (xV 3) (xC (.str ""))), (cCmp .Gt (xBlt "len" [(xV 3)]) (xC (.int 2))), (cNot (cTru (xBlt "all" [(xLc (bN 4) [4] (iOf (xV 3)) none (xCmp .In (xV 4) (xC (.str "0123456789"))))])))]) [sRet (xC (.bl false))] [],
    sIf (cBool .And [(cCmp .Eq (xIx (xV 3) (xC (.int 0))) (xC (.str "0"))), (cCmp .NotEq (xV 0) (xC (.str "0")))]) [sRet (xC (.bl false))] [],
    sSet 5 (xIf (cCmp .Eq (xV 3) (xV 0)) (xBlt "int" [(xV 3)]) (xBin .Sub (xC (.int 0)) (xBlt "int" [(xV 3)]))),
    sRet (xChain .LtE .LtE (xV 1) (xV 5) (xV 2))]
theorem b_is_number_word (cl : Cl) (ws : List W) (S : Sto) : bodyR pg cl F_is_number_word ws S = seqC (c_is_number_word cl) (startE F_is_number_word.N ws) S := by
  kernel_rfl
def c_is_of (cl : Cl) : List CS := [sIf (cCmp .Eq (xIx (xV 0) (xC (.int 0))) (xC (.str "any"))) [sRet (xC (.bl true))] [],
    sRet (xIf (cCmp .Eq (xIx (xV 0) (xC (.int 0))) (xC (.str "chosen"))) (xCmp .In (xV 1) (xSl (xV 0) (some (xC (.int 1))) none)) (xCall cl "is_number_word" 3 [(xV 1), (xIx (xV 0) (xC (.int 1))), (xIx (xV 0) (xC (.int 2)))]))]
theorem b_is_of (cl : Cl) (ws : List W) (S : Sto) : bodyR pg cl F_is_of ws S = seqC (c_is_of cl) (startE F_is_of.N ws) S := by
  kernel_rfl
def c__law_number (cl : Cl) : List CS := [sSetT [2, 3] (xIf (cCmp .NotEq (xV 0) (xLst [])) (xTup [(xIx (xV 0) (xBin .Mod (xV 1) (xBlt "len" [(xV 0)]))), (xBin .FloorDiv (xV 1) (xBlt "len" [(xV 0)]))]) (xTup [(xC (.int 12345)), (xC (.int 0))])),
    sSet 4 (xIf (cCmp .Lt (xV 3) (xC (.int 60))) (xBin .Sub (xV 2) (xBin .Pow (xC (.int 10)) (xC (.int 18)))) (xC (.int 0))),
    sFor (bN 5) (iRng1 (xBin .Mod (xBlt "int" [(xV 3)]) (xC (.int 60)))) [sSet 4 (xBin .FloorDiv (xV 4) (xC (.int 1009)))],
    sIf (cCmp .Gt (xV 4) (xC (.int 0))) [sRet (xBin .Mod (xBlt "int" [(xV 4)]) (xC (.int 1009)))] [],
    sSet 6 (xBin .Mod (xBin .Add (xBin .Mult (xBlt "int" [(xBin .Add (xV 2) (xBin .Mult (xC (.int 977)) (xV 1)))]) (xC (.int 48271))) (xBin .Mult (xC (.int 31)) (xBlt "len" [(xV 0)]))) (xC (.int 2147483647))),
    sSet 6 (xBin .Mod (xBin .Add (xBin .Mult (xV 6) (xV 6)) (xBin .Mult (xC (.int 40503)) (xV 1))) (xC (.int 2147483629))),
    sRet (xBlt "int" [(xBin .Mod (xBin .Add (xBin .Mult (xV 6) (xC (.int 69621))) (xBin .FloorDiv (xV 6) (xC (.int 977)))) (xC (.int 2147483587)))])]
theorem b__law_number (cl : Cl) (ws : List W) (S : Sto) : bodyR pg cl F__law_number ws S = seqC (c__law_number cl) (startE F__law_number.N ws) S := by
  kernel_rfl
def c__law_take (cl : Cl) : List CS := [sAugIx (xV 0) (xC (.int 1)) (xC (.int 1)),
    sRet (xBin .Mod (xBlt "int" [(xCall cl "_law_number" 2 [(xIx (xV 0) (xC (.int 0))), (xBlt "int" [(xIx (xV 0) (xC (.int 1)))])])]) (xV 1))]
theorem b__law_take (cl : Cl) (ws : List W) (S : Sto) : bodyR pg cl F__law_take ws S = seqC (c__law_take cl) (startE F__law_take.N ws) S := by
  kernel_rfl
def c__law_pick (cl : Cl) : List CS := [sRet (xIx (xV 1) (xCall cl "_law_take" 2 [(xV 0), (xBlt "len" [(xV 1)])]))]
theorem b__law_pick (cl : Cl) (ws : List W) (S : Sto) : bodyR pg cl F__law_pick ws S = seqC (c__law_pick cl) (startE F__law_pick.N ws) S := by
  kernel_rfl
def c__law_is_number (cl : Cl) : List CS := [sRet (xCmp .In (xV 0) (xLc (bN 3) [3] (iRng2 (xV 1) (xBin .Add (xV 2) (xC (.int 1)))) none (xBlt "str" [(xV 3)])))]
theorem b__law_is_number (cl : Cl) (ws : List W) (S : Sto) : bodyR pg cl F__law_is_number ws S = seqC (c__law_is_number cl) (startE F__law_is_number.N ws) S := by
  kernel_rfl
def c__law_is_of (cl : Cl) : List CS := [sIf (cCmp .Eq (xIx (xV 0) (xC (.int 0))) (xC (.str "number"))) [sRet (xCall cl "_law_is_number" 3 [(xV 1), (xIx (xV 0) (xC (.int 1))), (xIx (xV 0) (xC (.int 2)))])] [],
    sRet (xBool .Or [(xCmp .Eq (xIx (xV 0) (xC (.int 0))) (xC (.str "any"))), (xCmp .In (xV 1) (xSl (xV 0) (some (xC (.int 1))) none))])]
theorem b__law_is_of (cl : Cl) (ws : List W) (S : Sto) : bodyR pg cl F__law_is_of ws S = seqC (c__law_is_of cl) (startE F__law_is_of.N ws) S := by
  kernel_rfl
def c_law (cl : Cl) : List CS := [sCell 1 [(xV 0), (xC (.int 0))],
    sSet 2 (xBin .Sub (xCall cl "_law_take" 2 [(xV 1), (xC (.int 199))]) (xC (.int 99))),
    sSet 3 (xBlt "min" [(xC (.int 99)), (xBin .Add (xV 2) (xCall cl "_law_pick" 2 [(xV 1), (xLst [(xC (.int 0)), (xC (.int 1)), (xC (.int 9)), (xC (.int 50)), (xC (.int 198))])]))]),
    sSet 4 (xLst [(xTup [(xC (.str "any"))]), (xTup [(xC (.str "chosen")), (xC (.str "a"))]), (xTup [(xC (.str "chosen")), (xC (.str "on")), (xC (.str "off")), (xC (.str "x9"))]), (xTup [(xC (.str "number")), (xV 2), (xV 3)]), (xTup [(xC (.str "number")), (xNeg (xC (.int 99))), (xC (.int 99))]), (xTup [(xC (.str "number")), (xC (.int 0)), (xC (.int 0))])]),
    sSet 5 (xLst [(xC (.str "")), (xC (.str "a")), (xC (.str "on")), (xC (.str "off")), (xC (.str "A")), (xC (.str "chosen")), (xC (.str "any")), (xC (.str "number")), (xC (.str "a ")), (xC (.str "x9")), (xC (.str "-")), (xC (.str "--")), (xC (.str "0")), (xC (.str "-0")), (xC (.str "00")), (xC (.str "05")), (xC (.str "5")), (xC (.str "-5")), (xC (.str "+5")), (xC (.str "5.0")), (xC (.str "100")), (xC (.str "-100")), (xC (.str "99")), (xC (.str "-99")), (xC (.str "x"))]),
    sSet 5 (xBin .Add (xBin .Add (xV 5) (xLc (bN 6) [6] (iOf (xTup [(xBin .Sub (xV 2) (xC (.int 1))), (xV 2), (xBin .Add (xV 2) (xC (.int 1))), (xBin .Sub (xV 3) (xC (.int 1))), (xV 3), (xBin .Add (xV 3) (xC (.int 1)))])) none (xBlt "str" [(xV 6)]))) (xLst [(xBin .Add (xC (.str "-")) (xBlt "str" [(xV 3)])), (xBin .Add (xC (.str "0")) (xBlt "str" [(xV 3)]))])),
    sFor (bN 7) (iOf (xV 4)) [sIf (cNot (cTru (xBlt "all" [(xLc (bN 8) [8] (iOf (xV 5)) none (xCmp .Eq (xCall cl "is_of" 2 [(xV 7), (xV 8)]) (xCall cl "_law_is_of" 2 [(xV 7), (xV 8)])))]))) [sRet (xC (.bl false))] []],
    sRet (xC (.bl true))]
theorem b_law (cl : Cl) (ws : List W) (S : Sto) : bodyR pg cl F_law ws S = seqC (c_law cl) (startE F_law.N ws) S := by
  kernel_rfl
theorem draws : Draws pg fns := ⟨⟨_, rfl, rfl, fun cl ws S => b__law_number cl ws S⟩, ⟨_, rfl, rfl, fun cl ws S => b__law_take cl ws S⟩, ⟨_, rfl, rfl, fun cl ws S => b__law_pick cl ws S⟩⟩
/-! ### the words that the law asks for -/
def fixedW : List Str := ["", "a", "on", "off", "A", "chosen", "any", "number", "a ", "x9", "-", "--", "0", "-0", "00", "05", "5", "-5", "+5", "5.0", "100", "-100", "99", "-99", "x"]
def numsW : List Int := (List.range 201).map fun i : Nat => (i : Int) - 100
def allW : List Str := fixedW ++ (numsW.map strI ++ (numsW.map (fun n => "-" ++ strI n) ++ numsW.map (fun n => "0" ++ strI n)))
def preA (cl : Cl) : List CS := (c_is_number_word cl).take 4
def figs (w : Str) : W := .str (if cutS w none (some 1) == "-" then cutS w (some 1) none else w)
def told (lo hi : W) (w : Str) (S : Sto) : R Out' := match numO w with
  | none => .ok (.ret (.bl false)) S
  | some n => .ok (.next [some (.str w), some lo, some hi, some (figs w), none, some (.int n)]) S
theorem pre_all (cl : Cl) (lo hi : W) (S : Sto) : allW.map (fun w => seqC (preA cl) [some (.str w), some lo, some hi, none, none, none] S) = allW.map (fun w => told lo hi w S) := by
  kernel_rfl
theorem pre_ok (cl : Cl) (lo hi : W) (S : Sto) {w : Str} (h : w ∈ allW) : seqC (preA cl) [some (.str w), some lo, some hi, none, none, none] S = told lo hi w S := List.map_inj_left.mp (pre_all cl lo hi S) w h
theorem word_ok (d : Nat) (S : Sto) {w : Str} (h : w ∈ allW) (lo hi : Int) : callD pg fns (d + 1) "is_number_word" [.str w, .int lo, .int hi] S = .ok (.bl (numIn w lo hi)) S := by
  rw [callD_of (F := F_is_number_word) rfl rfl, b_is_number_word]
  have e : c_is_number_word (callD pg fns d) = preA (callD pg fns d) ++ [sRet (xChain .LtE .LtE (xV 1) (xV 5) (xV 2))] := rfl
  rw [e, seqC_app]
  have e' : startE F_is_number_word.N [.str w, .int lo, .int hi] = [some (.str w), some (.int lo), some (.int hi), none, none, none] := rfl
  rw [e', pre_ok _ _ _ _ h]
  unfold told numIn
  cases numO w with
  | none => exact exitR_ret
  | some n =>
    show exitR S.length (seqC [sRet (xChain .LtE .LtE (xV 1) (xV 5) (xV 2))] [some (.str w), some (.int lo), some (.int hi), some (figs w), none, some (.int n)] S) = .ok (.bl (decide (lo ≤ n) && decide (n ≤ hi))) S
    have q : sRet (xChain .LtE .LtE (xV 1) (xV 5) (xV 2)) [some (.str w), some (.int lo), some (.int hi), some (figs w), none, some (.int n)] S = .ok (.ret (.bl (decide (lo ≤ n) && decide (n ≤ hi)))) S := by
      have c1 : cmpop S .LtE (.int lo) (.int n) = some (decide (lo ≤ n)) := rfl
      have c2 : cmpop S .LtE (.int n) (.int hi) = some (decide (n ≤ hi)) := rfl
      simp only [sRet, xChain, xV, List.getElem?_cons_zero, List.getElem?_cons_succ, bind_ok, c1, lift_some]
      cases decide (lo ≤ n) with
      | false => rfl
      | true => rw [Bool.true_and]; rfl
    rw [seqC_ret q, exitR_ret]
theorem lawNum_ok (d : Nat) (S : Sto) (w : Str) (lo hi : Int) (h1 : -99 ≤ lo) (h1' : lo ≤ 99) (h2 : hi ≤ 99) (h2' : -99 ≤ hi) : callD pg fns (d + 1) "_law_is_number" [.str w, .int lo, .int hi] S = .ok (.bl (numIn w lo hi)) S := by
  rw [callD_of (F := F__law_is_number) rfl rfl, b__law_is_number]
  have e' : startE F__law_is_number.N [.str w, .int lo, .int hi] = [some (.str w), some (.int lo), some (.int hi), none] := rfl
  rw [e', c__law_is_number]
  have it : iRng2 (xV 1) (xBin .Add (xV 2) (xC (.int 1))) [some (.str w), some (.int lo), some (.int hi), none] S = .ok ((List.range (hi + 1 - lo).toNat).map fun i : Nat => W.int (lo + (i : Int))) S := by
    show guard' (decide (-(2 ^ 62) ≤ lo ∧ lo < 2 ^ 62 ∧ -(2 ^ 62) ≤ hi + 1 ∧ hi + 1 < 2 ^ 62)) _ = _
    rw [decide_eq_true (by omega)]
    rfl
  have lc : xLc (bN 3) [3] (iRng2 (xV 1) (xBin .Add (xV 2) (xC (.int 1)))) none (xBlt "str" [(xV 3)]) [some (.str w), some (.int lo), some (.int hi), none] S = .ok (.lst ((List.range (hi + 1 - lo).toNat).map fun i : Nat => W.str (strI (lo + (i : Int))))) S := by
    unfold xLc
    rw [it, bind_ok, lcR_map (f := fun x => match x with | .int i => .str (strI i) | x => x), List.nil_append, List.map_map]
    · rfl
    · simp
      omega
    · intro x hx
      rw [List.mem_map] at hx
      obtain ⟨i, hi1, rfl⟩ := hx
      rw [List.mem_range] at hi1
      have q : bcall S "str" [.int (lo + (i : Int))] = some (.str (strI (lo + (i : Int)))) := bcall_str (by omega)
      show (noExc (lift (bcall S "str" [.int (lo + (i : Int))]) S)).bind _ = _
      rw [q]
      rfl
  have s1 : sRet (xCmp .In (xV 0) (xLc (bN 3) [3] (iRng2 (xV 1) (xBin .Add (xV 2) (xC (.int 1)))) none (xBlt "str" [(xV 3)]))) [some (.str w), some (.int lo), some (.int hi), none] S = .ok (.ret (.bl (numIn w lo hi))) S := by
    refine sRet_ok (xCmp_ok rfl lc ?_)
    show (if _ then _ else _) = _
    rw [if_pos, numIn_any h1 h2]
    exact ⟨rfl, by rw [List.all_map]; exact List.all_eq_true.mpr fun _ _ => rfl⟩
  rw [seqC_ret s1, exitR_ret]
/-! ### the six kinds -/
def kindsW (lo hi : Int) : List W := [.tup [.str "any"], .tup [.str "chosen", .str "a"], .tup [.str "chosen", .str "on", .str "off", .str "x9"], .tup [.str "number", .int lo, .int hi], .tup [.str "number", .int (-99), .int 99], .tup [.str "number", .int 0, .int 0]]
def wordsW (lo hi : Int) : List Str := fixedW ++ ([lo - 1, lo, lo + 1, hi - 1, hi, hi + 1].map strI ++ ["-" ++ strI hi, "0" ++ strI hi])
theorem nums_mem {n : Int} (h1 : -100 ≤ n) (h2 : n ≤ 100) : n ∈ numsW := by
  unfold numsW
  rw [List.mem_map]
  exact ⟨(n + 100).toNat, by rw [List.mem_range]; omega, by omega⟩
theorem words_mem {lo hi : Int} (h1 : -99 ≤ lo) (h1' : lo ≤ 99) (h2 : hi ≤ 99) (h2' : -99 ≤ hi) : ∀ w ∈ wordsW lo hi, w ∈ allW := by
  intro w hw
  unfold wordsW at hw
  unfold allW
  rcases List.mem_append.mp hw with h | h
  · exact List.mem_append_left _ h
  · refine List.mem_append_right _ ?_
    rcases List.mem_append.mp h with h | h
    · refine List.mem_append_left _ ?_
      rw [List.mem_map] at h ⊢
      obtain ⟨n, hn, rfl⟩ := h
      refine ⟨n, ?_, rfl⟩
      simp only [List.mem_cons, List.not_mem_nil, or_false] at hn
      exact nums_mem (by omega) (by omega)
    · refine List.mem_append_right _ ?_
      simp only [List.mem_cons, List.not_mem_nil, or_false] at h
      rcases h with h | h
      · rw [h]
        exact List.mem_append_left _ (List.mem_map.mpr ⟨hi, nums_mem (by omega) (by omega), rfl⟩)
      · rw [h]
        exact List.mem_append_right _ (List.mem_map.mpr ⟨hi, nums_mem (by omega) (by omega), rfl⟩)
/-- what both readers say of a kind and a word -/
def kindSays (k : W) (w : Str) : Bool := match k with
  | .tup [.str "number", .int lo, .int hi] => numIn w lo hi
  | .tup (.str "any" :: _) => true
  | .tup (_ :: ws) => inW (.str w) ws
  | _ => false
theorem callD_ret {d : Nat} {f : Str} {F : Fn} {ws : List W} {S : Sto} {w : W} (hf : fns f = some F) (hl : ws.length = F.P) (h : bodyR pg (callD pg fns d) F ws S = .ok (.ret w) S) : callD pg fns (d + 1) f ws S = .ok w S := by
  rw [callD_of hf hl, h, exitR_ret]
theorem is_of_num (d : Nat) (S : Sto) {w : Str} (h : w ∈ allW) (lo hi : Int) : callD pg fns (d + 2) "is_of" [.tup [.str "number", .int lo, .int hi], .str w] S = .ok (.bl (numIn w lo hi)) S := by
  refine callD_ret (F := F_is_of) rfl rfl ?_
  rw [b_is_of]
  refine (seqC_next (env' := [some (.tup [.str "number", .int lo, .int hi]), some (.str w)]) (S' := S) (by kernel_rfl)).trans ?_
  refine seqC_ret (sRet_ok (xIf_f (S1 := S) (by kernel_rfl) (xCall_ok (ws := [.str w, .int lo, .int hi]) (S1 := S) (by kernel_rfl) rfl (word_ok d S h lo hi))))
theorem law_of_num (d : Nat) (S : Sto) (w : Str) (lo hi : Int) (h1 : -99 ≤ lo) (h1' : lo ≤ 99) (h2 : hi ≤ 99) (h2' : -99 ≤ hi) : callD pg fns (d + 2) "_law_is_of" [.tup [.str "number", .int lo, .int hi], .str w] S = .ok (.bl (numIn w lo hi)) S := by
  refine callD_ret (F := F__law_is_of) rfl rfl ?_
  rw [b__law_is_of]
  refine seqC_ret (sIf_t (S1 := S) (by kernel_rfl) (seqC_ret (sRet_ok (xCall_ok (ws := [.str w, .int lo, .int hi]) (S1 := S) (by kernel_rfl) rfl (lawNum_ok d S w lo hi h1 h1' h2 h2')))))
theorem is_of_any (d : Nat) (S : Sto) (w : Str) : callD pg fns (d + 2) "is_of" [.tup [.str "any"], .str w] S = .ok (.bl true) S := by
  refine callD_ret (F := F_is_of) rfl rfl ?_
  rw [b_is_of]
  exact seqC_ret (sIf_t (S1 := S) (by kernel_rfl) (by kernel_rfl))
theorem law_of_any (d : Nat) (S : Sto) (w : Str) : callD pg fns (d + 2) "_law_is_of" [.tup [.str "any"], .str w] S = .ok (.bl true) S := by
  refine callD_ret (F := F__law_is_of) rfl rfl ?_
  rw [b__law_is_of]
  refine (seqC_next (env' := [some (.tup [.str "any"]), some (.str w)]) (S' := S) (by kernel_rfl)).trans ?_
  exact seqC_ret (by kernel_rfl)
theorem is_of_ch (d : Nat) (S : Sto) (w : Str) (ws : List W) (hw : ws.all flatW = true) (hl : ws = [.str "a"] ∨ ws = [.str "on", .str "off", .str "x9"]) : callD pg fns (d + 2) "is_of" [.tup (.str "chosen" :: ws), .str w] S = .ok (.bl (inW (.str w) ws)) S := by
  refine callD_ret (F := F_is_of) rfl rfl ?_
  rw [b_is_of]
  rcases hl with rfl | rfl
  · refine (seqC_next (env' := [some (.tup [.str "chosen", .str "a"]), some (.str w)]) (S' := S) (by kernel_rfl)).trans ?_
    exact seqC_ret (by kernel_rfl)
  · refine (seqC_next (env' := [some (.tup [.str "chosen", .str "on", .str "off", .str "x9"]), some (.str w)]) (S' := S) (by kernel_rfl)).trans ?_
    exact seqC_ret (by kernel_rfl)
theorem law_of_ch (d : Nat) (S : Sto) (w : Str) (ws : List W) (hw : ws.all flatW = true) (hl : ws = [.str "a"] ∨ ws = [.str "on", .str "off", .str "x9"]) : callD pg fns (d + 2) "_law_is_of" [.tup (.str "chosen" :: ws), .str w] S = .ok (.bl (inW (.str w) ws)) S := by
  refine callD_ret (F := F__law_is_of) rfl rfl ?_
  rw [b__law_is_of]
  rcases hl with rfl | rfl
  · refine (seqC_next (env' := [some (.tup [.str "chosen", .str "a"]), some (.str w)]) (S' := S) (by kernel_rfl)).trans ?_
    exact seqC_ret (by kernel_rfl)
  · refine (seqC_next (env' := [some (.tup [.str "chosen", .str "on", .str "off", .str "x9"]), some (.str w)]) (S' := S) (by kernel_rfl)).trans ?_
    exact seqC_ret (by kernel_rfl)
theorem both (d : Nat) (S : Sto) (lo hi : Int) (h1 : -99 ≤ lo) (h1' : lo ≤ 99) (h2 : hi ≤ 99) (h2' : -99 ≤ hi) : ∀ k ∈ kindsW lo hi, ∀ w ∈ allW, ∃ b, callD pg fns (d + 2) "is_of" [k, .str w] S = .ok (.bl b) S ∧ callD pg fns (d + 2) "_law_is_of" [k, .str w] S = .ok (.bl b) S := by
  intro k hk w hw
  unfold kindsW at hk
  simp only [List.mem_cons, List.not_mem_nil, or_false] at hk
  rcases hk with rfl | rfl | rfl | rfl | rfl | rfl
  · exact ⟨_, is_of_any d S w, law_of_any d S w⟩
  · exact ⟨_, is_of_ch d S w _ rfl (.inl rfl), law_of_ch d S w _ rfl (.inl rfl)⟩
  · exact ⟨_, is_of_ch d S w _ rfl (.inr rfl), law_of_ch d S w _ rfl (.inr rfl)⟩
  · exact ⟨_, is_of_num d S hw lo hi, law_of_num d S w lo hi h1 h1' h2 h2'⟩
  · exact ⟨_, is_of_num d S hw (-99) 99, law_of_num d S w (-99) 99 (by decide) (by decide) (by decide) (by decide)⟩
  · exact ⟨_, is_of_num d S hw 0 0, law_of_num d S w 0 0 (by decide) (by decide) (by decide) (by decide)⟩
theorem rest (d : Nat) (S : Sto) (sc : W) (lo hi : Int) (h1 : -99 ≤ lo) (h1' : lo ≤ 99) (h2 : hi ≤ 99) (h2' : -99 ≤ hi) :
    seqC ((c_law (callD pg fns (d + 2))).drop 3) [some sc, some (.ref 0), some (.int lo), some (.int hi), none, none, none, none, none] S = .ok (.ret (.bl true)) S := by
  show seqC [_, _, _, _, _] _ _ = _
  refine (seqC_next (env' := [some sc, some (.ref 0), some (.int lo), some (.int hi), some (.lst (kindsW lo hi)), none, none, none, none]) (S' := S) (by kernel_rfl)).trans ?_
  refine (seqC_next (env' := [some sc, some (.ref 0), some (.int lo), some (.int hi), some (.lst (kindsW lo hi)), some (.lst (fixedW.map W.str)), none, none, none]) (S' := S) (by kernel_rfl)).trans ?_
  have nums : xLc (bN 6) [6] (iOf (xTup [(xBin .Sub (xV 2) (xC (.int 1))), (xV 2), (xBin .Add (xV 2) (xC (.int 1))), (xBin .Sub (xV 3) (xC (.int 1))), (xV 3), (xBin .Add (xV 3) (xC (.int 1)))])) none (xBlt "str" [(xV 6)])
      [some sc, some (.ref 0), some (.int lo), some (.int hi), some (.lst (kindsW lo hi)), some (.lst (fixedW.map W.str)), none, none, none] S
      = .ok (.lst (([lo - 1, lo, lo + 1, hi - 1, hi, hi + 1].map W.int).map fun x => match x with | .int i => .str (strI i) | x => x)) S := by
    refine xLc_ok _ (by kernel_rfl) (show 6 ≤ 100000 by decide) fun w hw => ?_
    rw [List.mem_map] at hw
    obtain ⟨n, hn, rfl⟩ := hw
    refine xBlt_ok (S1 := S) (ws := [.int n]) rfl (bcall_str ?_)
    simp only [List.mem_cons, List.not_mem_nil, or_false] at hn
    omega
  have e1 : xBin .Add (xC (.str "-")) (xBlt "str" [(xV 3)]) [some sc, some (.ref 0), some (.int lo), some (.int hi), some (.lst (kindsW lo hi)), some (.lst (fixedW.map W.str)), none, none, none] S = .ok (.str ("-" ++ strI hi)) S := by
    refine xBin_ok rfl (xBlt_ok (S1 := S) (ws := [.int hi]) rfl (bcall_str (by omega))) ?_
    have := strI_len (n := hi) (by omega) (by omega)
    have l1 : (Str.ofString "-").length = 1 := by decide +kernel
    exact if_pos (decide_eq_true (by omega))
  have e2 : xBin .Add (xC (.str "0")) (xBlt "str" [(xV 3)]) [some sc, some (.ref 0), some (.int lo), some (.int hi), some (.lst (kindsW lo hi)), some (.lst (fixedW.map W.str)), none, none, none] S = .ok (.str ("0" ++ strI hi)) S := by
    refine xBin_ok rfl (xBlt_ok (S1 := S) (ws := [.int hi]) rfl (bcall_str (by omega))) ?_
    have := strI_len (n := hi) (by omega) (by omega)
    have l1 : (Str.ofString "0").length = 1 := by decide +kernel
    exact if_pos (decide_eq_true (by omega))
  have e3 : xLst [(xBin .Add (xC (.str "-")) (xBlt "str" [(xV 3)])), (xBin .Add (xC (.str "0")) (xBlt "str" [(xV 3)]))] [some sc, some (.ref 0), some (.int lo), some (.int hi), some (.lst (kindsW lo hi)), some (.lst (fixedW.map W.str)), none, none, none] S = .ok (.lst [.str ("-" ++ strI hi), .str ("0" ++ strI hi)]) S := by
    unfold xLst
    rw [mapC_cons e1 (mapC_cons e2 rfl)]
    rfl
  refine (seqC_next (env' := [some sc, some (.ref 0), some (.int lo), some (.int hi), some (.lst (kindsW lo hi)), some (.lst ((wordsW lo hi).map W.str)), none, none, none]) (S' := S) (sSet_ok (w := .lst ((wordsW lo hi).map W.str)) (xBin_ok (xBin_ok rfl nums rfl) e3 rfl))).trans ?_
  have loop : ∃ e, forR (fun env S => seqC [sIf (cNot (cTru (xBlt "all" [(xLc (bN 8) [8] (iOf (xV 5)) none (xCmp .Eq (xCall (callD pg fns (d + 2)) "is_of" 2 [(xV 7), (xV 8)]) (xCall (callD pg fns (d + 2)) "_law_is_of" 2 [(xV 7), (xV 8)])))]))) [sRet (xC (.bl false))] []] env S) (bN 7) (kindsW lo hi) [some sc, some (.ref 0), some (.int lo), some (.int hi), some (.lst (kindsW lo hi)), some (.lst ((wordsW lo hi).map W.str)), none, none, none] S = .ok (.next e) S ∧ ∃ k, e = [some sc, some (.ref 0), some (.int lo), some (.int hi), some (.lst (kindsW lo hi)), some (.lst ((wordsW lo hi).map W.str)), none, k, none] := by
    refine forR_same _ _ ⟨none, rfl⟩ ?_
    rintro k hk env ⟨k0, rfl⟩
    refine ⟨[some sc, some (.ref 0), some (.int lo), some (.int hi), some (.lst (kindsW lo hi)), some (.lst ((wordsW lo hi).map W.str)), none, some k, none], _, rfl, ?_, ⟨some k, rfl⟩⟩
    have lc : xLc (bN 8) [8] (iOf (xV 5)) none (xCmp .Eq (xCall (callD pg fns (d + 2)) "is_of" 2 [(xV 7), (xV 8)]) (xCall (callD pg fns (d + 2)) "_law_is_of" 2 [(xV 7), (xV 8)])) [some sc, some (.ref 0), some (.int lo), some (.int hi), some (.lst (kindsW lo hi)), some (.lst ((wordsW lo hi).map W.str)), none, some k, none] S = .ok (.lst (((wordsW lo hi).map W.str).map fun _ => .bl true)) S := by
      refine xLc_ok _ rfl ?_ fun w hw => ?_
      · rw [List.length_map]
        exact (by decide : 33 ≤ 100000)
      · rw [List.mem_map] at hw
        obtain ⟨z, hz, rfl⟩ := hw
        obtain ⟨b, b1, b2⟩ := both d S lo hi h1 h1' h2 h2' k hk z (words_mem h1 h1' h2 h2' z hz)
        refine xCmp_ok (xCall_ok (ws := [k, .str z]) (S1 := S) rfl rfl b1) (xCall_ok (ws := [k, .str z]) (S1 := S) rfl rfl b2) ?_
        show some (b == b) = some true
        rw [beq_self_eq_true]
    refine seqC_next (sIf_f (cNot_ok (cTru_ok (xBlt_ok (mapC_cons lc rfl) (all_true S _)) rfl)) rfl)
  obtain ⟨e, he, k, hk⟩ := loop
  refine (seqC_next (sFor_ok (items := kindsW lo hi) (S1 := S) rfl he)).trans ?_
  exact seqC_ret (by kernel_rfl)
theorem law_true (ns : List Int) (hl : ns.length ≤ 63) : callD pg fns 12 "law" [.frl (ns.map W.int)] [] = .ok (.bl true) [] := by
  rw [callD_of (F := F_law) rfl rfl, b_law]
  obtain ⟨r1, p1, q1, e1⟩ := take_ok draws 9 [drawO ns 0] 0 ns 0 199 hl (by decide) (by decide) rfl
  obtain ⟨i, hi, e2⟩ := pick_ok draws 8 [drawO ns (0 + 1)] 0 ns (0 + 1) [.int 0, .int 1, .int 9, .int 50, .int 198] hl (by decide) (by decide) rfl
  obtain ⟨p, hp, hv⟩ : ∃ p : Int, 0 ≤ p ∧ [W.int 0, W.int 1, W.int 9, W.int 50, W.int 198][i] = .int p := by
    have : i < 5 := hi
    match i, this with
    | 0, _ => exact ⟨0, by decide, rfl⟩
    | 1, _ => exact ⟨1, by decide, rfl⟩
    | 2, _ => exact ⟨9, by decide, rfl⟩
    | 3, _ => exact ⟨50, by decide, rfl⟩
    | 4, _ => exact ⟨198, by decide, rfl⟩
  rw [hv] at e2
  have m1 : ∃ lo : Int, r1 - 99 = lo ∧ -99 ≤ lo ∧ lo ≤ 99 := ⟨r1 - 99, rfl, by omega, by omega⟩
  obtain ⟨lo, l1, l2, l3⟩ := m1
  have m2 : ∃ hi : Int, (if lo + p < 99 then lo + p else 99) = hi ∧ -99 ≤ hi ∧ hi ≤ 99 := ⟨_, rfl, by split <;> omega, by split <;> omega⟩
  obtain ⟨h, k1, k2, k3⟩ := m2
  have main : seqC (c_law (callD pg fns 11)) (startE F_law.N [.frl (ns.map W.int)]) [] = .ok (.ret (.bl true)) [drawO ns (0 + 1 + 1)] := by
    show seqC (_ :: _ :: _ :: _) _ _ = _
    refine (seqC_next (env' := [some (.frl (ns.map W.int)), some (.ref 0), none, none, none, none, none, none, none]) (S' := [drawO ns 0]) (by kernel_rfl)).trans ?_
    refine (seqC_next (env' := [some (.frl (ns.map W.int)), some (.ref 0), some (.int lo), none, none, none, none, none, none]) (S' := [drawO ns (0 + 1)]) (sSet_ok (w := .int lo) (xBin_ok (x := .int r1) (y := .int 99) (xCall_ok (ws := [.ref 0, .int 199]) (S1 := [drawO ns 0]) rfl rfl e1) rfl (by rw [← l1]; rfl)))).trans ?_
    refine (seqC_next (env' := [some (.frl (ns.map W.int)), some (.ref 0), some (.int lo), some (.int h), none, none, none, none, none]) (S' := [drawO ns (0 + 1 + 1)]) (sSet_ok (w := .int h) (xBlt_ok (ws := [.int 99, .int (lo + p)]) (mapC_cons rfl (mapC_cons (xBin_ok (y := .int p) rfl (xCall_ok (ws := [.ref 0, .lst [.int 0, .int 1, .int 9, .int 50, .int 198]]) (S1 := [drawO ns (0 + 1)]) (by kernel_rfl) rfl e2) rfl) rfl)) (by rw [← k1]; kernel_rfl)))).trans ?_
    exact rest 9 _ _ lo h l2 l3 k3 k2
  rw [main]
  kernel_rfl
/-! ### the head -/
def d_is_number_word : He.DefD := ⟨("is_number_word", none), "is_number_word", "is_number_word", defArgs s_is_number_word, defBody s_is_number_word, defScope s_is_number_word, [], []⟩
def d_is_of : He.DefD := ⟨("is_of", none), "is_of", "is_of", defArgs s_is_of, defBody s_is_of, defScope s_is_of, [], []⟩
def d__law_number : He.DefD := ⟨("_law_number", none), "_law_number", "_law_number", defArgs s__law_number, defBody s__law_number, defScope s__law_number, [], []⟩
def d__law_take : He.DefD := ⟨("_law_take", none), "_law_take", "_law_take", defArgs s__law_take, defBody s__law_take, defScope s__law_take, [], []⟩
def d__law_pick : He.DefD := ⟨("_law_pick", none), "_law_pick", "_law_pick", defArgs s__law_pick, defBody s__law_pick, defScope s__law_pick, [], []⟩
def d__law_is_number : He.DefD := ⟨("_law_is_number", none), "_law_is_number", "_law_is_number", defArgs s__law_is_number, defBody s__law_is_number, defScope s__law_is_number, [], []⟩
def d__law_is_of : He.DefD := ⟨("_law_is_of", none), "_law_is_of", "_law_is_of", defArgs s__law_is_of, defBody s__law_is_of, defScope s__law_is_of, [], []⟩
def d_law : He.DefD := ⟨("law", none), "law", "law", defArgs s_law, defBody s_law, defScope s_law, [], []⟩
def fn : List He.DefD := [d_is_number_word, d_is_of, d__law_number, d__law_take, d__law_pick, d__law_is_number, d__law_is_of, d_law]
def fa : List He.Fa := [.glo "is_number_word", .glo "is_of", .glo "_law_number", .glo "_law_take", .glo "_law_pick", .glo "_law_is_number", .glo "_law_is_of", .glo "law", .free "all", .free "int", .free "len", .free "min", .free "range", .free "str", .str "FIGURES" "0123456789"]
abbrev RR : PySem.W.OpenRow := PySem.W.OpenLaw.row PySem.Challenge.rw_switchyard_k03_types
abbrev hk : PySem.W.Hook := He.hookD 4 fa fn
def ob (s : PySem.W.SharedT) : He.AlD := He.obsDG 4 fa fn (HandSHeadRun.getT s)
theorem ob_eq (s : PySem.W.SharedT) : ob s = hk.obs s.abs := He.obsDG_eq (HandSHeadRun.getT_eq s)
def loose : List PySem.Str := ["FIGURES", "is_number_word", "is_of", "_law_number", "_law_take", "_law_pick", "_law_is_number", "_law_is_of"]
theorem run (w : World) : HandSHeadRun.RunEq RR (PySem.W.view RR.prog [10]) hk ob 2000 loose w := by
  intro os
  kernel_rfl
theorem txt {K : PySem.W.Frag} {h : Heap} {mg : Str → Option Value} (X : K.In h) (G : h.Ns mainGlobals mg) (c : He.SaysD fa fn K) : Txt K mg pg fns := by
  have q0 : Def K mg "is_number_word" F_is_number_word := by
    obtain ⟨fd, F⟩ := c.def_ 0 (d := d_is_number_word) rfl
    exact ⟨⟨_, fd, _, F, He.glo_ok X G (c.fact 0 (f := .glo "is_number_word") rfl), FunD.bindsN F (ps := ["word", "low", "high"]) fun _ _ _ _ _ _ us hl => match us, hl with | [_, _, _], _ => rfl⟩, ⟨rfl, rfl, rfl, by decide +kernel, rfl, by decide +kernel, by decide +kernel⟩, rfl⟩
  have q1 : Def K mg "is_of" F_is_of := by
    obtain ⟨fd, F⟩ := c.def_ 1 (d := d_is_of) rfl
    exact ⟨⟨_, fd, _, F, He.glo_ok X G (c.fact 1 (f := .glo "is_of") rfl), FunD.bindsN F (ps := ["told", "word"]) fun _ _ _ _ _ _ us hl => match us, hl with | [_, _], _ => rfl⟩, ⟨rfl, rfl, rfl, by decide +kernel, rfl, by decide +kernel, by decide +kernel⟩, rfl⟩
  have q2 : Def K mg "_law_number" F__law_number := by
    obtain ⟨fd, F⟩ := c.def_ 2 (d := d__law_number) rfl
    exact ⟨⟨_, fd, _, F, He.glo_ok X G (c.fact 2 (f := .glo "_law_number") rfl), FunD.bindsN F (ps := ["script", "index"]) fun _ _ _ _ _ _ us hl => match us, hl with | [_, _], _ => rfl⟩, ⟨rfl, rfl, rfl, by decide +kernel, rfl, by decide +kernel, by decide +kernel⟩, rfl⟩
  have q3 : Def K mg "_law_take" F__law_take := by
    obtain ⟨fd, F⟩ := c.def_ 3 (d := d__law_take) rfl
    exact ⟨⟨_, fd, _, F, He.glo_ok X G (c.fact 3 (f := .glo "_law_take") rfl), FunD.bindsN F (ps := ["draw", "many"]) fun _ _ _ _ _ _ us hl => match us, hl with | [_, _], _ => rfl⟩, ⟨rfl, rfl, rfl, by decide +kernel, rfl, by decide +kernel, by decide +kernel⟩, rfl⟩
  have q4 : Def K mg "_law_pick" F__law_pick := by
    obtain ⟨fd, F⟩ := c.def_ 4 (d := d__law_pick) rfl
    exact ⟨⟨_, fd, _, F, He.glo_ok X G (c.fact 4 (f := .glo "_law_pick") rfl), FunD.bindsN F (ps := ["draw", "items"]) fun _ _ _ _ _ _ us hl => match us, hl with | [_, _], _ => rfl⟩, ⟨rfl, rfl, rfl, by decide +kernel, rfl, by decide +kernel, by decide +kernel⟩, rfl⟩
  have q5 : Def K mg "_law_is_number" F__law_is_number := by
    obtain ⟨fd, F⟩ := c.def_ 5 (d := d__law_is_number) rfl
    exact ⟨⟨_, fd, _, F, He.glo_ok X G (c.fact 5 (f := .glo "_law_is_number") rfl), FunD.bindsN F (ps := ["word", "low", "high"]) fun _ _ _ _ _ _ us hl => match us, hl with | [_, _, _], _ => rfl⟩, ⟨rfl, rfl, rfl, by decide +kernel, rfl, by decide +kernel, by decide +kernel⟩, rfl⟩
  have q6 : Def K mg "_law_is_of" F__law_is_of := by
    obtain ⟨fd, F⟩ := c.def_ 6 (d := d__law_is_of) rfl
    exact ⟨⟨_, fd, _, F, He.glo_ok X G (c.fact 6 (f := .glo "_law_is_of") rfl), FunD.bindsN F (ps := ["kind", "word"]) fun _ _ _ _ _ _ us hl => match us, hl with | [_, _], _ => rfl⟩, ⟨rfl, rfl, rfl, by decide +kernel, rfl, by decide +kernel, by decide +kernel⟩, rfl⟩
  have q7 : Def K mg "law" F_law := by
    obtain ⟨fd, F⟩ := c.def_ 7 (d := d_law) rfl
    exact ⟨⟨_, fd, _, F, He.glo_ok X G (c.fact 7 (f := .glo "law") rfl), FunD.bindsN F (ps := ["script"]) fun _ _ _ _ _ _ us hl => match us, hl with | [_], _ => rfl⟩, ⟨rfl, rfl, rfl, by decide +kernel, rfl, by decide +kernel, by decide +kernel⟩, rfl⟩
  have c0 : ∃ u v, mg "FIGURES" = some u ∧ RelV v u ∧ ∀ B, Rep K B [] v (.str "0123456789") := by
    obtain ⟨t, e⟩ := He.str_ok X G (c.fact 14 (f := .str "FIGURES" "0123456789") rfl)
    exact ⟨_, .str _, e, ⟨t, rfl⟩, fun B => .str _⟩
  exact ⟨fun f F e => (show ∀ p ∈ fnl, Def K mg p.1 p.2 from all_consW q0 ( all_consW q1 ( all_consW q2 ( all_consW q3 ( all_consW q4 ( all_consW q5 ( all_consW q6 ( all_consW q7 ( all_nilW))))))))) _ (lookup_memW e), fun f => rfl, fun x w e => (show ∀ p ∈ csts, ∃ u v, mg p.1 = some u ∧ RelV v u ∧ ∀ B, Rep K B [] v p.2 from all_consW c0 ( all_nilW)) _ (lookup_memW e), all_consW (He.free_ok X G (c.fact 8 (f := .free "all") rfl)) ( all_consW (He.free_ok X G (c.fact 9 (f := .free "int") rfl)) ( all_consW (He.free_ok X G (c.fact 10 (f := .free "len") rfl)) ( all_consW (He.free_ok X G (c.fact 11 (f := .free "min") rfl)) ( all_consW (He.free_ok X G (c.fact 12 (f := .free "range") rfl)) ( all_consW (He.free_ok X G (c.fact 13 (f := .free "str") rfl)) ( all_nilW))))))⟩
end K03
open PySem PySem.W PySem.Calls PyProof.Rows
theorem PySem.Challenge.cw_switchyard_k03_types_holds : PySem.Challenge.rw_switchyard_k03_types.Holds := by
  w_on; o_law
  refine HandSHeadRun.head_any (r := OpenLaw.row PySem.Challenge.rw_switchyard_k03_types) (q := view (OpenLaw.row PySem.Challenge.rw_switchyard_k03_types).prog [10]) (H := K03.hk) (ob := K03.ob) (M := 2000) (loose := K03.loose) (d := HandSHeadRun.topDef (OpenLaw.row PySem.Challenge.rw_switchyard_k03_types).prog 10) (kwd := []) K03.ob_eq
    (by kernel_rfl) (fun s => by kernel_rfl) K03.run (by kernel_rfl) (by kernel_rfl) (by kernel_rfl) (by rfl) (by first | assumption | decide +kernel) (by decide +kernel) ⟨rfl, rfl, rfl, rfl, rfl, by decide +kernel⟩ ?hw ?hc
  case hw => w_witness2
  case hc =>
    refine L2.walk_ofE (l := PySem.Challenge.rw_switchyard_k03_types) (n := 63) (k := 12) (x := "script") (CX := L2.CX0) rfl (by decide) (by kernel_rfl) ⟨rfl, by decide, by decide⟩ ?F (fun _ _ _ _ z => z)
    intro w mg fa h Y G hmg0
    obtain ⟨K, KX, c⟩ := Y
    have hmg : mg ("law" : PySem.Str) = some (.ref fa) := by
      have e : (HandSHeadRun.topDef (OpenLaw.row PySem.Challenge.rw_switchyard_k03_types).prog 10).name = ("law" : PySem.Str) := by kernel_rfl
      rw [← e]
      exact hmg0
    have T := K03.txt KX G c
    obtain ⟨fd0, F0⟩ := c.def_ 7 (d := K03.d_law) rfl
    have e := hmg.symm.trans (He.glo_ok KX G (c.fact 7 (f := .glo "law") rfl))
    cases e
    refine ⟨K, fd0, fun vs H Q _ => Mi.SpF K mg (Mi.callD K03.pg K03.fns 12) "law" 1 vs H Q L2.E0, KX, fun s u => ?_, fun H a ns hl _ hS => Mi.law_sp hS (K03.law_true ns hl), fun base KB GB => ?_⟩
    · exact L2.FunD.bindsA F0 (ps := ["script"]) (fun _ _ _ _ _ _ us hl => match us, hl with | [_], _ => rfl) s [u] rfl
    · exact Mi.fn_plain (Mi.fn_step (d := 12 - 1) (F := K03.F_law) T rfl F0 (Mi.fn_ok T (12 - 1)))
