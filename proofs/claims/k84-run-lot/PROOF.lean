import PyProof.Rows.All
import Wide.All
import OpenK.AllK
import Wide.FinOn
import HandS.ForMost
import HandS.Exc
import HandS.ExcOwn
import HandS.WordsExc
import HandS.CallSlots
import HandS.ExcCtx
import HandS.HotCalls
import HandS.Defaults
import HandS.Property
import HandS.HeadHook1
import HandS.Walk
import HandS.Wide
import PyProof.StrBlock2
import HandS.Text
import HandS.Small
import HandS.IsInst
import HandS.ExcIs
import HandS.Codes
import HandS.MakeKwOnly
import HandS.HeadHook2
import HandS.HeadNt
import PySem.Challenge.RW_onetelling_k84_run_lot
import KE.KStateDown
import Lean
import HandS.Head0
import HandS.Head1
import HandS.Head2
import HandS.HeadEnd
set_option Elab.async false
set_option linter.all false
set_option maxRecDepth 100000
set_option maxHeartbeats 4000000
/-! Vf1: values as trees, what they stand for in the heap, the state of a body, the forms of evaluation. -/
namespace Vf
open PySem PySem.Spec PyProof.Rows L2

abbrev St := L2.St
/-- an index within the machine's line: by natAbs, so that the kernel never counts down from 2 ^ 62 -/
def Ok62 (j : Int) : Bool := Nat.ble j.natAbs 4611686018427387903
theorem Ok62.lo {j : Int} (h : Ok62 j = true) : -(2 ^ 62) ≤ j ∧ j < 2 ^ 62 := by
  have := Nat.le_of_ble_eq_true h
  omega
theorem ok62_of {j : Int} (h : j.natAbs ≤ 4611686018427387903) : Ok62 j = true := Nat.ble_eq_true_of_le h
theorem ok62_nat {n : Nat} (h : n ≤ 10000000) : Ok62 (n : Int) = true := ok62_of (by omega)
theorem ok62_int {j : Int} (h0 : -10000000 ≤ j) (h : j ≤ 10000000) : Ok62 j = true := ok62_of (by omega)
def OkSz (n : Nat) : Bool := Nat.ble n 16777216
theorem OkSz.le {n : Nat} (h : OkSz n = true) : n ≤ sizeLine := by
  have := Nat.le_of_ble_eq_true h
  rw [sizeLine_eq]; exact this
theorem okSz_of {n : Nat} (h : n ≤ 10000000) : OkSz n = true := Nat.ble_eq_true_of_le (by omega)
/-- a value as a tree -/
inductive D where
  | non | bl (b : Bool) | int (i : Int) | str (s : Str)
  | tup (xs : List D) | lst (xs : List D)
  | dk (ks : List Key) (vs : List D) | dt (ks : List (List Key)) (vs : List D)
  | ins (c : Str) (ns : List Str) (vs : List D)
  | ref (n : Nat) | adr (a : Addr) | scr (is : List Int)

mutual
/-- G: what never changes any more; rho: where the cells stand -/
inductive Rep (K : PySem.W.Frag) (G : Hp) (rho : List Addr) : V → D → Prop
  | non : Rep K G rho .non .non
  | bl (b : Bool) : Rep K G rho (.bl b) (.bl b)
  | int (i : Int) : Rep K G rho (.int i) (.int i)
  | str (x : Str) : Rep K G rho (.str x) (.str x)
  | obj {p : Addr} {o : HO} {d : D} (h : G p = some o) (r : RepO K G rho o d) : Rep K G rho (.ref p) d
  | ref {n : Nat} {p : Addr} (h : rho[n]? = some p) : Rep K G rho (.ref p) (.ref n)
  | adr (a : Addr) : Rep K G rho (.ref a) (.adr a)
  | scr {p : Addr} {is : List Int} (h : SqL K G p (is.map V.int)) : Rep K G rho (.ref p) (.scr is)
inductive RepO (K : PySem.W.Frag) (G : Hp) (rho : List Addr) : HO → D → Prop
  | lst {vs : List V} {xs : List D} (r : Reps K G rho vs xs) : RepO K G rho (.lst vs) (.lst xs)
  | tup {vs : List V} {xs : List D} (r : Reps K G rho vs xs) : RepO K G rho (.tup vs) (.tup xs)
  | dk {ks : List Key} {vs : List V} {xs : List D} (l : ks.length = vs.length) (r : Reps K G rho vs xs) : RepO K G rho (.dK (ks.zip vs)) (.dk ks xs)
  | dt {ks : List (List Key)} {vs : List V} {xs : List D} (l : ks.length = vs.length) (r : Reps K G rho vs xs) : RepO K G rho (.dT (ks.zip vs)) (.dt ks xs)
  | ins {c : Str} {dx : Addr} {ns : List Str} {vs : List V} {xs : List D} (l : ns.length = vs.length) (r : Reps K G rho vs xs) : RepO K G rho (.ins (He.ga K c) dx (ns.zip vs)) (.ins c ns xs)
inductive Reps (K : PySem.W.Frag) (G : Hp) (rho : List Addr) : List V → List D → Prop
  | nil : Reps K G rho [] []
  | cons {v : V} {vs : List V} {d : D} {ds : List D} (h : Rep K G rho v d) (t : Reps K G rho vs ds) : Reps K G rho (v :: vs) (d :: ds)
end

structure Wd where
  G : Hp
  rho : List Addr
structure Wd.Le (W W' : Wd) : Prop where
  g : ∀ a o, W.G a = some o → W'.G a = some o
  r : W.rho <+: W'.rho
theorem Wd.Le.refl (W : Wd) : W.Le W := ⟨fun _ _ h => h, List.prefix_refl _⟩
theorem Wd.Le.trans {A B C : Wd} (h : A.Le B) (k : B.Le C) : A.Le C := ⟨fun a o q => k.g a o (h.g a o q), h.r.trans k.r⟩
theorem pre_get {α : Type} {l l' : List α} (h : l <+: l') {n : Nat} {p : α} (e : l[n]? = some p) : l'[n]? = some p := by
  obtain ⟨t, rfl⟩ := h
  have hn : n < l.length := (List.getElem?_eq_some_iff.mp e).1
  rw [List.getElem?_append_left hn]
  exact e

theorem sqL_mono {K : PySem.W.Frag} {G G' : Hp} {p : Addr} {xs : List V} (l : ∀ a o, G a = some o → G' a = some o) (h : SqL K G p xs) : SqL K G' p xs :=
  h.elim (fun h => .inl (h.elim (fun h => .inl (l _ _ h)) fun ⟨o, h⟩ => .inr ⟨o, l _ _ h⟩)) .inr
mutual
theorem Rep.mono {K : PySem.W.Frag} {W W' : Wd} (l : W.Le W') : ∀ {v : V} {d : D}, Rep K W.G W.rho v d → Rep K W'.G W'.rho v d
  | _, _, .non => .non
  | _, _, .bl b => .bl b
  | _, _, .int i => .int i
  | _, _, .str x => .str x
  | _, _, .obj h r => .obj (l.g _ _ h) (RepO.mono l r)
  | _, _, .ref h => .ref (pre_get l.r h)
  | _, _, .adr a => .adr a
  | _, _, .scr h => .scr (sqL_mono l.g h)
theorem RepO.mono {K : PySem.W.Frag} {W W' : Wd} (l : W.Le W') : ∀ {o : HO} {d : D}, RepO K W.G W.rho o d → RepO K W'.G W'.rho o d
  | _, _, .lst r => .lst (Reps.mono l r)
  | _, _, .tup r => .tup (Reps.mono l r)
  | _, _, .dk e r => .dk e (Reps.mono l r)
  | _, _, .dt e r => .dt e (Reps.mono l r)
  | _, _, .ins e r => .ins e (Reps.mono l r)
theorem Reps.mono {K : PySem.W.Frag} {W W' : Wd} (l : W.Le W') : ∀ {vs : List V} {ds : List D}, Reps K W.G W.rho vs ds → Reps K W'.G W'.rho vs ds
  | _, _, .nil => .nil
  | _, _, .cons h t => .cons (Rep.mono l h) (Reps.mono l t)
end
section
variable {K : PySem.W.Frag} {G : Hp} {rho : List Addr}
theorem Reps.length : ∀ {vs : List V} {ds : List D}, Reps K G rho vs ds → vs.length = ds.length
  | _, _, .nil => rfl
  | _, _, .cons _ t => congrArg Nat.succ (Reps.length t)
theorem Reps.append : ∀ {vs vs' : List V} {ds ds' : List D}, Reps K G rho vs ds → Reps K G rho vs' ds' → Reps K G rho (vs ++ vs') (ds ++ ds')
  | _, _, _, _, .nil, s => s
  | _, _, _, _, .cons h t, s => .cons h (Reps.append t s)
theorem Reps.get : ∀ {vs : List V} {ds : List D} {i : Nat} {d : D}, Reps K G rho vs ds → ds[i]? = some d → ∃ v, vs[i]? = some v ∧ Rep K G rho v d
  | _, _, i, d, .nil, e => by simp at e
  | _, _, 0, d, .cons h _, e => by simp at e; subst e; exact ⟨_, rfl, h⟩
  | _, _, i + 1, d, .cons _ t, e => by
    obtain ⟨v, h1, h2⟩ := Reps.get (i := i) t (by simpa using e)
    exact ⟨v, by simpa using h1, h2⟩
theorem Reps.getV : ∀ {vs : List V} {ds : List D} {i : Nat} {v : V}, Reps K G rho vs ds → vs[i]? = some v → ∃ d, ds[i]? = some d ∧ Rep K G rho v d
  | _, _, i, d, .nil, e => by simp at e
  | _, _, 0, d, .cons h _, e => by simp at e; subst e; exact ⟨_, rfl, h⟩
  | _, _, i + 1, d, .cons _ t, e => by
    obtain ⟨v, h1, h2⟩ := Reps.getV (i := i) t (by simpa using e)
    exact ⟨v, by simpa using h1, h2⟩
theorem Reps.set {v : V} {d : D} (h : Rep K G rho v d) : ∀ {vs : List V} {ds : List D} (i : Nat), Reps K G rho vs ds → Reps K G rho (vs.set i v) (ds.set i d)
  | _, _, _, .nil => .nil
  | _, _, 0, .cons _ t => .cons h t
  | _, _, i + 1, .cons q t => .cons q (Reps.set h i t)
theorem Reps.take : ∀ {vs : List V} {ds : List D} (n : Nat), Reps K G rho vs ds → Reps K G rho (vs.take n) (ds.take n)
  | _, _, 0, _ => .nil
  | _, _, _ + 1, .nil => .nil
  | _, _, n + 1, .cons h t => .cons h (Reps.take n t)
theorem Reps.drop : ∀ {vs : List V} {ds : List D} (n : Nat), Reps K G rho vs ds → Reps K G rho (vs.drop n) (ds.drop n)
  | _, _, 0, r => r
  | _, _, _ + 1, .nil => .nil
  | _, _, n + 1, .cons _ t => Reps.drop n t
theorem Reps.erase : ∀ {vs : List V} {ds : List D} (n : Nat), Reps K G rho vs ds → Reps K G rho (vs.eraseIdx n) (ds.eraseIdx n)
  | _, _, _, .nil => .nil
  | _, _, 0, .cons _ t => t
  | _, _, n + 1, .cons h t => .cons h (Reps.erase n t)
theorem Reps.reverse {vs : List V} {ds : List D} (h : Reps K G rho vs ds) : Reps K G rho vs.reverse ds.reverse := by
  have go : ∀ (vs : List V) (ds : List D), Reps K G rho vs ds → Reps K G rho vs.reverse ds.reverse := by
    intro vs
    induction vs with
    | nil => intro ds h; cases h; exact .nil
    | cons v vs ih => intro ds h; cases h with | cons h t => rw [List.reverse_cons, List.reverse_cons]; exact (ih _ t).append (.cons h .nil)
  exact go _ _ h
theorem Reps.rep {vs : List V} {ds : List D} (h : Reps K G rho vs ds) : ∀ k : Nat, Reps K G rho (List.replicate k vs).flatten (List.replicate k ds).flatten
  | 0 => .nil
  | k + 1 => by rw [List.replicate_succ, List.replicate_succ, List.flatten_cons, List.flatten_cons]; exact h.append (Reps.rep h k)
theorem Reps.dropLast {vs : List V} {ds : List D} (h : Reps K G rho vs ds) : Reps K G rho vs.dropLast ds.dropLast := by
  rw [List.dropLast_eq_take, List.dropLast_eq_take, h.length]
  exact h.take _
theorem Reps.map {α : Type} {f : α → V} {g : α → D} (h : ∀ a, Rep K G rho (f a) (g a)) : ∀ l : List α, Reps K G rho (l.map f) (l.map g)
  | [] => .nil
  | a :: l => .cons (h a) (Reps.map h l)
theorem Reps.ints (l : List Int) : Reps K G rho (l.map V.int) (l.map D.int) := Reps.map (fun i => .int i) l
theorem Reps.strs (l : List Str) : Reps K G rho (l.map V.str) (l.map D.str) := Reps.map (fun i => .str i) l
theorem Reps.of_ints : ∀ {l : List Int} {vs : List V}, Reps K G rho vs (l.map D.int) → vs = l.map V.int
  | [], _, .nil => rfl
  | i :: l, _, .cons h t => by
    cases h with
    | int => rw [Reps.of_ints t]; rfl
    | obj h r => cases r
theorem Reps.of_strs : ∀ {l : List Str} {vs : List V}, Reps K G rho vs (l.map D.str) → vs = l.map V.str
  | [], _, .nil => rfl
  | i :: l, _, .cons h t => by
    cases h with
    | str => rw [Reps.of_strs t]; rfl
    | obj h r => cases r
theorem Reps.of_bls : ∀ {l : List Bool} {vs : List V}, Reps K G rho vs (l.map D.bl) → vs = l.map V.bl
  | [], _, .nil => rfl
  | i :: l, _, .cons h t => by
    cases h with
    | bl => rw [Reps.of_bls t]; rfl
    | obj h r => cases r
/-! scalars back -/
theorem Rep.non_inv {v : V} (h : Rep K G rho v .non) : v = .non := by cases h with | non => rfl | obj h r => cases r
theorem Rep.bl_inv {v : V} {b : Bool} (h : Rep K G rho v (.bl b)) : v = .bl b := by cases h with | bl => rfl | obj h r => cases r
theorem Rep.int_inv {v : V} {i : Int} (h : Rep K G rho v (.int i)) : v = .int i := by cases h with | int => rfl | obj h r => cases r
theorem Rep.str_inv {v : V} {x : Str} (h : Rep K G rho v (.str x)) : v = .str x := by cases h with | str => rfl | obj h r => cases r
theorem Rep.ref_inv {v : V} {n : Nat} (h : Rep K G rho v (.ref n)) : ∃ p, v = .ref p ∧ rho[n]? = some p := by cases h with | ref h => exact ⟨_, rfl, h⟩ | obj h r => cases r
theorem Rep.adr_inv {v : V} {a : Addr} (h : Rep K G rho v (.adr a)) : v = .ref a := by cases h with | adr => rfl | obj h r => cases r
end

/-- the content of a cell at p -/
def CellAt (K : PySem.W.Frag) (W : Wd) (H : Hp) (p : Addr) (d : D) : Prop := ∃ o, H p = some o ∧ RepO K W.G W.rho o d
theorem CellAt.mono {K : PySem.W.Frag} {W W' : Wd} {H H' : Hp} {p : Addr} {d : D} (l : W.Le W') (h : H' p = H p) (c : CellAt K W H p d) : CellAt K W' H' p d := by
  obtain ⟨o, e, r⟩ := c
  exact ⟨o, h.trans e, RepO.mono l r⟩
/-- a value as it is read now: the frozen one, or a cell's content -/
def RepH (K : PySem.W.Frag) (W : Wd) (H : Hp) (v : V) (d : D) : Prop := Rep K W.G W.rho v d ∨ ∃ p, v = .ref p ∧ CellAt K W H p d

inductive Slot where
  | none | val (d : D) | loc (d : D)

structure SimS (K : PySem.W.Frag) (W : Wd) (S : List D) (H : Hp) : Prop where
  ex : ∀ a o, W.G a = some o → H a = some o
  len : W.rho.length = S.length
  nd : W.rho.Nodup
  cell : ∀ (n : Nat) (c : D) (p : Addr), S[n]? = some c → W.rho[n]? = some p → CellAt K W H p c
  gc : ∀ p ∈ W.rho, W.G p = none

/-- the ground: the heap and the world at the def's entry -/
structure Bs where
  H0 : Hp
  W0 : Wd
  self : Option Addr

structure Sim (K : PySem.W.Frag) (C : Bs) (W : Wd) (L : Nat → Addr) (env : List Slot) (S : List D) (σ : St) (H : Hp) : Prop where
  s : SimS K W S H
  val : ∀ (i : Nat) (d : D), env[i]? = some (.val d) → ∃ v, σ[i]? = some (some v) ∧ Rep K W.G W.rho v d
  loc : ∀ (i : Nat) (d : D), env[i]? = some (.loc d) → σ[i]? = some (some (.ref (L i))) ∧ CellAt K W H (L i) d ∧ W.G (L i) = none ∧ L i ∉ W.rho ∧ C.H0 (L i) = none
  inj : ∀ (i j : Nat) (c c' : D), env[i]? = some (.loc c) → env[j]? = some (.loc c') → L i = L j → i = j
  le : C.W0.Le W
  new : ∀ a o, W.G a = some o → C.W0.G a = some o ∨ C.H0 a = none
  newrho : ∀ (n : Nat) (p : Addr), C.W0.rho.length ≤ n → W.rho[n]? = some p → C.H0 p = none
  kept : ∀ a o, C.H0 a = some o → a ∉ C.W0.rho → H a = some o
  elen : env.length = σ.length
  pin : ∀ p, C.self = some p → L 0 = p

/-- what a pure operation hands on: a value that was there, or one new frozen object -/
inductive Yield (K : PySem.W.Frag) (W : Wd) (H : Hp) (d : D) : V → Hp → Wd → Prop
  | same {v : V} (r : Rep K W.G W.rho v d) : Yield K W H d v H W
  | new {p : Addr} {o : HO} (h : H p = none) (r : RepO K W.G W.rho o d) : Yield K W H d (.ref p) (upd H p o) ⟨upd W.G p o, W.rho⟩

section
variable {K : PySem.W.Frag} {C : Bs} {W W' : Wd} {L : Nat → Addr} {env : List Slot} {S : List D} {σ : St} {H : Hp}
theorem SimS.at_ (m : SimS K W S H) {p : Addr} (h : p ∈ W.rho) : ∃ o, H p = some o := by
  obtain ⟨n, hn⟩ := List.mem_iff_getElem?.mp h
  have hl : n < W.rho.length := (List.getElem?_eq_some_iff.mp hn).1
  have hs : n < S.length := by rw [← m.len]; exact hl
  obtain ⟨o, e, _⟩ := m.cell n S[n] p (List.getElem?_eq_getElem hs) hn
  exact ⟨o, e⟩
/-- a place that is not tracked -/
theorem Sim.free (m : Sim K C W L env S σ H) {p : Addr} (h : H p = none) : W.G p = none ∧ p ∉ W.rho ∧ C.H0 p = none ∧ (∀ (i : Nat) (d : D), env[i]? = some (.loc d) → L i ≠ p) := by
  have h1 : p ∉ W.rho := fun z => by obtain ⟨o, e⟩ := m.s.at_ z; rw [h] at e; cases e
  refine ⟨?_, h1, ?_, fun i d e z => ?_⟩
  · cases q : W.G p with
    | none => rfl
    | some o => rw [m.s.ex p o q] at h; cases h
  · cases q : C.H0 p with
    | none => rfl
    | some o => rw [m.kept p o q (fun z => h1 (m.le.r.subset z))] at h; cases h
  · obtain ⟨_, ⟨o, e', _⟩, _⟩ := m.loc i d e
    rw [z, h] at e'; cases e'
theorem le_new {G : Hp} {rho : List Addr} {p : Addr} {o : HO} (h : G p = none) : (Wd.mk G rho).Le ⟨upd G p o, rho⟩ :=
  ⟨fun a u e => by
    have e' : G a = some u := e
    show upd G p o a = some u
    rw [upd_ne (ne_of_none e' h)]; exact e', List.prefix_refl _⟩
/-- a new object, frozen at once -/
theorem Sim.frz (m : Sim K C W L env S σ H) {p : Addr} {o : HO} (h : H p = none) : Sim K C ⟨upd W.G p o, W.rho⟩ L env S σ (upd H p o) := by
  obtain ⟨f1, f2, f3, f4⟩ := m.free h
  have le : W.Le ⟨upd W.G p o, W.rho⟩ := le_new f1
  have keep : ∀ {q : Addr} {d : D}, q ≠ p → CellAt K W H q d → CellAt K ⟨upd W.G p o, W.rho⟩ (upd H p o) q d := fun hq c => c.mono le (upd_ne hq)
  refine ⟨⟨fun a u e => ?_, m.s.len, m.s.nd, fun n c q e1 e2 => keep (fun z => f2 (z ▸ List.mem_of_getElem? e2)) (m.s.cell n c q e1 e2), fun q hq => ?_⟩, fun i d e => ?_, fun i d e => ?_, m.inj, m.le.trans le, fun a u e => ?_, m.newrho, fun a u e ha => ?_, m.elen, m.pin⟩
  · have e' : (upd W.G p o) a = some u := e
    by_cases z : a = p
    · subst z; rw [upd_same] at e' ⊢; exact e'
    · rw [upd_ne z] at e' ⊢; exact m.s.ex a u e'
  · show upd W.G p o q = none
    rw [upd_ne (fun z => f2 (by rw [← z]; exact hq))]; exact m.s.gc q hq
  · obtain ⟨v, e1, r⟩ := m.val i d e
    exact ⟨v, e1, r.mono le⟩
  · obtain ⟨e1, c, g, nr, h0⟩ := m.loc i d e
    refine ⟨e1, keep (f4 i d e) c, ?_, nr, h0⟩
    show upd W.G p o (L i) = none
    rw [upd_ne (f4 i d e)]; exact g
  · have e' : (upd W.G p o) a = some u := e
    by_cases z : a = p
    · subst z; exact .inr f3
    · rw [upd_ne z] at e'; exact m.new a u e'
  · rw [upd_ne (fun z => by rw [z, f3] at e; cases e)]; exact m.kept a u e ha
/-- a new object that nobody looks at -/
theorem Sim.garb (m : Sim K C W L env S σ H) {p : Addr} {o : HO} (h : H p = none) : Sim K C W L env S σ (upd H p o) := by
  obtain ⟨f1, f2, f3, f4⟩ := m.free h
  have keep : ∀ {q : Addr} {d : D}, q ≠ p → CellAt K W H q d → CellAt K W (upd H p o) q d := fun hq c => c.mono (Wd.Le.refl W) (upd_ne hq)
  refine ⟨⟨fun a u e => ?_, m.s.len, m.s.nd, fun n c q e1 e2 => keep (fun z => f2 (z ▸ List.mem_of_getElem? e2)) (m.s.cell n c q e1 e2), m.s.gc⟩, m.val, fun i d e => ?_, m.inj, m.le, m.new, m.newrho, fun a u e ha => ?_, m.elen, m.pin⟩
  · rw [upd_ne (fun z => by rw [z, f1] at e; cases e)]; exact m.s.ex a u e
  · obtain ⟨e1, c, g, nr, h0⟩ := m.loc i d e
    exact ⟨e1, keep (f4 i d e) c, g, nr, h0⟩
  · rw [upd_ne (fun z => by rw [z, f3] at e; cases e)]; exact m.kept a u e ha
theorem Sim.yield (m : Sim K C W L env S σ H) {d : D} {v : V} {H' : Hp} (y : Yield K W H d v H' W') : W.Le W' ∧ Sim K C W' L env S σ H' ∧ Rep K W'.G W'.rho v d := by
  cases y with
  | same r => exact ⟨Wd.Le.refl W, m, r⟩
  | new h r =>
    have le := le_new (rho := W.rho) (o := by assumption) (m.free h).1
    exact ⟨le, m.frz h, .obj upd_same (RepO.mono le r)⟩
/-- a slot gets a frozen value -/
theorem Sim.setVal (m : Sim K C W L env S σ H) {i : Nat} {v : V} {d : D} (r : Rep K W.G W.rho v d) (hi : i < env.length) : Sim K C W L (env.set i (.val d)) S (σ.set i (some v)) H := by
  refine ⟨m.s, fun j d' e => ?_, fun j d' e => ?_, fun j k c c' e1 e2 z => ?_, m.le, m.new, m.newrho, m.kept, by rw [List.length_set, List.length_set]; exact m.elen, m.pin⟩
  · by_cases z : i = j
    · subst z
      rw [List.getElem?_set_self hi] at e; cases e
      exact ⟨v, List.getElem?_set_self (by rw [← m.elen]; exact hi), r⟩
    · rw [List.getElem?_set_ne z] at e ⊢
      exact m.val j d' e
  · by_cases z : i = j
    · subst z; rw [List.getElem?_set_self hi] at e; cases e
    · rw [List.getElem?_set_ne z] at e ⊢
      exact m.loc j d' e
  · have h1 : i ≠ j := fun q => by subst q; rw [List.getElem?_set_self hi] at e1; cases e1
    have h2 : i ≠ k := fun q => by subst q; rw [List.getElem?_set_self hi] at e2; cases e2
    rw [List.getElem?_set_ne h1] at e1
    rw [List.getElem?_set_ne h2] at e2
    exact m.inj j k c c' e1 e2 z
/-- a fresh object of one's own -/
structure Own (K : PySem.W.Frag) (C : Bs) (W : Wd) (L : Nat → Addr) (env : List Slot) (H : Hp) (p : Addr) (d : D) : Prop where
  at_ : CellAt K W H p d
  g : W.G p = none
  nr : p ∉ W.rho
  h0 : C.H0 p = none
  nl : ∀ (i : Nat) (c : D), env[i]? = some (.loc c) → L i ≠ p
/-- a new object that is one's own -/
theorem Sim.own (m : Sim K C W L env S σ H) {p : Addr} {o : HO} {d : D} (h : H p = none) (r : RepO K W.G W.rho o d) : Sim K C W L env S σ (upd H p o) ∧ Own K C W L env (upd H p o) p d :=
  let f := m.free h
  ⟨m.garb h, ⟨⟨o, upd_same, r⟩, f.1, f.2.1, f.2.2.1, f.2.2.2⟩⟩
/-- it is frozen -/
theorem Sim.frzOwn (m : Sim K C W L env S σ H) {p : Addr} {d : D} (w : Own K C W L env H p d) : ∃ W', W.Le W' ∧ Sim K C W' L env S σ H ∧ Rep K W'.G W'.rho (.ref p) d := by
  obtain ⟨o, e, r⟩ := w.at_
  have le : W.Le ⟨upd W.G p o, W.rho⟩ := le_new w.g
  refine ⟨⟨upd W.G p o, W.rho⟩, le, ⟨⟨fun a u q => ?_, m.s.len, m.s.nd, fun n c q e1 e2 => (m.s.cell n c q e1 e2).mono le rfl, fun q hq => ?_⟩, fun i d' q => ?_, fun i d' q => ?_, m.inj, m.le.trans le, fun a u q => ?_, m.newrho, m.kept, m.elen, m.pin⟩, .obj upd_same (RepO.mono le r)⟩
  · have q' : (upd W.G p o) a = some u := q
    by_cases z : a = p
    · subst z; rw [upd_same] at q'; rw [← q']; exact e
    · rw [upd_ne z] at q'; exact m.s.ex a u q'
  · show upd W.G p o q = none
    rw [upd_ne (fun z => w.nr (by rw [← z]; exact hq))]; exact m.s.gc q hq
  · obtain ⟨v, e1, r1⟩ := m.val i d' q
    exact ⟨v, e1, r1.mono le⟩
  · obtain ⟨e1, c, g, nr, h0⟩ := m.loc i d' q
    refine ⟨e1, c.mono le rfl, ?_, nr, h0⟩
    show upd W.G p o (L i) = none
    rw [upd_ne (w.nl i d' q)]; exact g
  · have q' : (upd W.G p o) a = some u := q
    by_cases z : a = p
    · subst z; exact .inr w.h0
    · rw [upd_ne z] at q'; exact m.new a u q'
/-- a slot gets an own object -/
theorem Sim.setLoc (m : Sim K C W L env S σ H) {i : Nat} {p : Addr} {d : D} (w : Own K C W L env H p d) (hi : i < env.length) (h0 : i ≠ 0) : Sim K C W (fun j => if j = i then p else L j) (env.set i (.loc d)) S (σ.set i (some (.ref p))) H := by
  have hσ : i < σ.length := by rw [← m.elen]; exact hi
  refine ⟨m.s, fun j d' e => ?_, fun j d' e => ?_, fun j k c c' e1 e2 z => ?_, m.le, m.new, m.newrho, m.kept, by rw [List.length_set, List.length_set]; exact m.elen, fun q z => by rw [if_neg (Ne.symm h0)]; exact m.pin q z⟩
  · by_cases z : i = j
    · subst z; rw [List.getElem?_set_self hi] at e; cases e
    · rw [List.getElem?_set_ne z] at e ⊢
      exact m.val j d' e
  · by_cases z : i = j
    · subst z
      rw [List.getElem?_set_self hi] at e; cases e
      simp only [if_true]
      exact ⟨List.getElem?_set_self hσ, w.at_, w.g, w.nr, w.h0⟩
    · rw [List.getElem?_set_ne z] at e ⊢
      have z' : ¬ j = i := fun q => z q.symm
      simp only [if_neg z']
      exact m.loc j d' e
  · by_cases h1 : i = j
    · subst h1
      by_cases h2 : i = k
      · exact h2
      · rw [List.getElem?_set_ne h2] at e2
        have h2' : ¬ k = i := fun q => h2 q.symm
        simp only [if_true, if_neg h2'] at z
        exact absurd z.symm (w.nl k c' e2)
    · rw [List.getElem?_set_ne h1] at e1
      have h1' : ¬ j = i := fun q => h1 q.symm
      by_cases h2 : i = k
      · subst h2
        simp only [if_true, if_neg h1'] at z
        exact absurd z (w.nl j c e1)
      · rw [List.getElem?_set_ne h2] at e2
        have h2' : ¬ k = i := fun q => h2 q.symm
        simp only [if_neg h1', if_neg h2'] at z
        exact m.inj j k c c' e1 e2 z
/-- a slot is forgotten -/
theorem Sim.forget (m : Sim K C W L env S σ H) {i : Nat} {x : Option V} : Sim K C W L (env.set i .none) S (σ.set i x) H := by
  by_cases hi : i < env.length
  · refine ⟨m.s, fun j d' e => ?_, fun j d' e => ?_, fun j k c c' e1 e2 z => ?_, m.le, m.new, m.newrho, m.kept, by rw [List.length_set, List.length_set]; exact m.elen, m.pin⟩
    · by_cases z : i = j
      · subst z; rw [List.getElem?_set_self hi] at e; cases e
      · rw [List.getElem?_set_ne z] at e ⊢
        exact m.val j d' e
    · by_cases z : i = j
      · subst z; rw [List.getElem?_set_self hi] at e; cases e
      · rw [List.getElem?_set_ne z] at e ⊢
        exact m.loc j d' e
    · have h1 : i ≠ j := fun q => by subst q; rw [List.getElem?_set_self hi] at e1; cases e1
      have h2 : i ≠ k := fun q => by subst q; rw [List.getElem?_set_self hi] at e2; cases e2
      rw [List.getElem?_set_ne h1] at e1
      rw [List.getElem?_set_ne h2] at e2
      exact m.inj j k c c' e1 e2 z
  · rw [List.set_eq_of_length_le (by omega), List.set_eq_of_length_le (by rw [← m.elen]; omega)]
    exact m
/-- a local cell is changed -/
theorem Sim.mut (m : Sim K C W L env S σ H) {i : Nat} {d d' : D} {o' : HO} (e : env[i]? = some (.loc d)) (r : RepO K W.G W.rho o' d') : Sim K C W L (env.set i (.loc d')) S σ (upd H (L i) o') := by
  have hi : i < env.length := (List.getElem?_eq_some_iff.mp e).1
  obtain ⟨e1, c, g, nr, h0⟩ := m.loc i d e
  refine ⟨⟨fun a u q => ?_, m.s.len, m.s.nd, fun n c q x1 x2 => (m.s.cell n c q x1 x2).mono (Wd.Le.refl W) (upd_ne fun z => nr (z ▸ List.mem_of_getElem? x2)), m.s.gc⟩, fun j d2 q => ?_, fun j d2 q => ?_, fun j k c c' q1 q2 z => ?_, m.le, m.new, m.newrho, fun a u q ha => ?_, by rw [List.length_set]; exact m.elen, m.pin⟩
  · rw [upd_ne (fun z => by rw [z, g] at q; cases q)]; exact m.s.ex a u q
  · by_cases z : i = j
    · subst z; rw [List.getElem?_set_self hi] at q; cases q
    · rw [List.getElem?_set_ne z] at q; exact m.val j d2 q
  · by_cases z : i = j
    · subst z
      rw [List.getElem?_set_self hi] at q; cases q
      exact ⟨e1, ⟨o', upd_same, r⟩, g, nr, h0⟩
    · rw [List.getElem?_set_ne z] at q
      obtain ⟨y1, y2, y3⟩ := m.loc j d2 q
      exact ⟨y1, y2.mono (Wd.Le.refl W) (upd_ne fun w => z (m.inj i j _ _ e q w.symm)), y3⟩
  · have x1 : ∃ c, env[j]? = some (.loc c) := by
      by_cases h : i = j
      · subst h; exact ⟨d, e⟩
      · rw [List.getElem?_set_ne h] at q1; exact ⟨c, q1⟩
    have x2 : ∃ c, env[k]? = some (.loc c) := by
      by_cases h : i = k
      · subst h; exact ⟨d, e⟩
      · rw [List.getElem?_set_ne h] at q2; exact ⟨c', q2⟩
    obtain ⟨y1, z1⟩ := x1
    obtain ⟨y2, z2⟩ := x2
    exact m.inj j k y1 y2 z1 z2 z
  · rw [upd_ne (fun z => by rw [z, h0] at q; cases q)]; exact m.kept a u q ha
/-- a local is frozen where it stands -/
theorem Sim.frzLoc (m : Sim K C W L env S σ H) {i : Nat} {d : D} (e : env[i]? = some (.loc d)) : ∃ W', W.Le W' ∧ Sim K C W' L (env.set i (.val d)) S σ H ∧ Rep K W'.G W'.rho (.ref (L i)) d := by
  have hi : i < env.length := (List.getElem?_eq_some_iff.mp e).1
  obtain ⟨e1, c, g, nr, h0⟩ := m.loc i d e
  have m0 := m.forget (i := i) (x := some (.ref (L i)))
  have hs : σ.set i (some (.ref (L i))) = σ := by
    apply List.ext_getElem?
    intro j
    by_cases z : i = j
    · subst z; rw [List.getElem?_set_self (by rw [← m.elen]; exact hi)]; exact e1.symm
    · rw [List.getElem?_set_ne z]
  rw [hs] at m0
  have w : Own K C W L (env.set i .none) H (L i) d := by
    refine ⟨c, g, nr, h0, fun j c' q z => ?_⟩
    by_cases h : i = j
    · subst h; rw [List.getElem?_set_self hi] at q; cases q
    · rw [List.getElem?_set_ne h] at q
      exact h (m.inj j i _ _ q e z).symm
  obtain ⟨W', le, m1, r⟩ := m0.frzOwn w
  refine ⟨W', le, ?_, r⟩
  have m2 := m1.setVal (i := i) r (by rw [List.length_set]; exact hi)
  rw [List.set_set, hs] at m2
  exact m2
/-- an own object is put into the ground: nothing will touch it -/
theorem Sim.ground (m : Sim K C W L env S σ H) {p : Addr} {o : HO} (e : H p = some o) (g : W.G p = none) (nr : p ∉ W.rho) (nl : ∀ (i : Nat) (c : D), env[i]? = some (.loc c) → L i ≠ p) : Sim K ⟨upd C.H0 p o, C.W0, C.self⟩ W L env S σ H := by
  refine ⟨m.s, m.val, fun i d q => ?_, m.inj, m.le, fun a u q => ?_, fun n a hn q => ?_, fun a u q ha => ?_, m.elen, m.pin⟩
  · obtain ⟨e1, c, g', nr', h0⟩ := m.loc i d q
    refine ⟨e1, c, g', nr', ?_⟩
    show upd C.H0 p o (L i) = none
    rw [upd_ne (nl i d q)]; exact h0
  · rcases m.new a u q with h | h
    · exact .inl h
    · refine .inr ?_
      show upd C.H0 p o a = none
      rw [upd_ne (fun z => by rw [z, g] at q; cases q)]; exact h
  · show upd C.H0 p o a = none
    rw [upd_ne (fun z => nr (by rw [← z]; exact List.mem_of_getElem? q))]; exact m.newrho n a hn q
  · have q' : upd C.H0 p o a = some u := q
    by_cases z : a = p
    · subst z; rw [upd_same] at q'; rw [← q']; exact e
    · rw [upd_ne z] at q'; exact m.kept a u q' ha
theorem Sim.unground {p : Addr} {o : HO} (m : Sim K ⟨upd C.H0 p o, C.W0, C.self⟩ W L env S σ H) (h0 : C.H0 p = none) (hr : p ∉ C.W0.rho) (hg : C.W0.G p = none) : Sim K C W L env S σ H ∧ H p = some o ∧ W.G p = none ∧ p ∉ W.rho ∧ ∀ (i : Nat) (c : D), env[i]? = some (.loc c) → L i ≠ p := by
  have up : ∀ {a : Addr}, upd C.H0 p o a = none → a ≠ p ∧ C.H0 a = none := fun {a} q => by
    by_cases z : a = p
    · subst z; rw [upd_same] at q; cases q
    · rw [upd_ne z] at q; exact ⟨z, q⟩
  refine ⟨⟨m.s, m.val, fun i d q => ?_, m.inj, m.le, fun a u q => ?_, fun n a hn q => (up (m.newrho n a hn q)).2, fun a u q ha => ?_, m.elen, m.pin⟩, m.kept p o upd_same hr, ?_, fun z => ?_, fun i c q => (up (m.loc i c q).2.2.2.2).1⟩
  · obtain ⟨e1, c, g', nr', h⟩ := m.loc i d q
    exact ⟨e1, c, g', nr', (up h).2⟩
  · rcases m.new a u q with h | h
    · exact .inl h
    · exact .inr (up h).2
  · refine m.kept a u ?_ ha
    show upd C.H0 p o a = some u
    rw [upd_ne (fun z => by rw [z, h0] at q; cases q)]; exact q
  · cases q : W.G p with
    | none => rfl
    | some u =>
      rcases m.new p u q with h | h
      · have h' : C.W0.G p = some u := h
        rw [hg] at h'; cases h'
      · exact absurd rfl (up h).1
  · obtain ⟨n, hn⟩ := List.mem_iff_getElem?.mp z
    by_cases hl : C.W0.rho.length ≤ n
    · exact absurd rfl (up (m.newrho n p hl hn)).1
    · have h1 : n < C.W0.rho.length := by omega
      have h2 := pre_get m.le.r (List.getElem?_eq_getElem h1)
      rw [hn] at h2
      exact hr (by rw [Option.some.inj h2]; exact List.getElem_mem h1)
end
end Vf
/-! Vf2: the forms of evaluation: expressions, operands, argument lists, tests. -/
namespace Vf
open PySem PySem.Spec PyProof.Rows L2

structure Exn where
  cls : Str
  ns : List Str
  vs : List D
inductive Res (α : Type) where
  | ok (a : α) (env : List Slot) (S : List D)
  | err (x : Exn) (env : List Slot) (S : List D)
  | stuck
abbrev M (α : Type) := List Slot → List D → Res α
def Res.bind {α β : Type} (r : Res α) (k : α → List Slot → List D → Res β) : Res β := match r with
  | .ok a env S => k a env S
  | .err x env S => .err x env S
  | .stuck => .stuck
def Res.lift {α : Type} (o : Option α) (env : List Slot) (S : List D) : Res α := match o with
  | some a => .ok a env S
  | none => .stuck

structure Ctx where
  K : PySem.W.Frag
  wish : XK
/-- an exception as it flies -/
def RepX (K : PySem.W.Frag) (W : Wd) (cls : Value) (dd : Option Addr) (x : Exn) : Prop :=
  cls = .ref (He.ga K x.cls) ∧ ((dd = none ∧ x.ns = []) ∨ ∃ d vs, x.ns ≠ [] ∧ dd = some d ∧ W.G d = some (.xd (x.ns.zip vs)) ∧ x.ns.length = vs.length ∧ Reps K W.G W.rho vs x.vs)
def Post {α : Type} (C : Ctx) (B : Bs) (L : Nat → Addr) (σ : St) (W : Wd) (r : Res α) (P : α → Wd → List Slot → List D → Hp → Prop) : Prop := match r with
  | .ok a env S => ∀ W' H', W.Le W' → Sim C.K B W' L env S σ H' → P a W' env S H'
  | .err x env S => ∀ W' H' cls dd, W.Le W' → Sim C.K B W' L env S σ H' → RepX C.K W' cls dd x → C.wish cls dd H'
  | .stuck => False
section
variable {α β : Type} {C : Ctx} {B : Bs} {L : Nat → Addr} {σ : St} {W W' : Wd} {r : Res α} {P P' : α → Wd → List Slot → List D → Hp → Prop}
theorem Post.mono (h : Post C B L σ W r P) (k : ∀ a W' env S H', W.Le W' → Sim C.K B W' L env S σ H' → P a W' env S H' → P' a W' env S H') : Post C B L σ W r P' := by
  cases r with
  | ok a env S => exact fun W' H' l m => k a W' env S H' l m (h W' H' l m)
  | err x env S => exact h
  | stuck => exact h
theorem Post.mono2 (h : Post C B L σ W r P) (k : ∀ a W' env S H', W.Le W' → Sim C.K B W' L env S σ H' → (∀ W2 H2, W'.Le W2 → Sim C.K B W2 L env S σ H2 → P a W2 env S H2) → P' a W' env S H') : Post C B L σ W r P' := by
  cases r with
  | ok a env S => exact fun W' H' l m => k a W' env S H' l m fun W2 H2 l2 m2 => h W2 H2 (l.trans l2) m2
  | err x env S => exact h
  | stuck => exact h
theorem Post.le (h : Post C B L σ W r P) (l : W.Le W') : Post C B L σ W' r P := by
  cases r with
  | ok a env S => exact fun W2 H' l2 m => h W2 H' (l.trans l2) m
  | err x env S => exact fun W2 H' cls dd l2 m => h W2 H' cls dd (l.trans l2) m
  | stuck => exact h
theorem Post.bind {k : α → List Slot → List D → Res β} {Q : β → Wd → List Slot → List D → Hp → Prop} (h : Post C B L σ W (r.bind k) Q) : Post C B L σ W r (fun a W' env S H' => Post C B L σ W' (k a env S) Q) := by
  cases r with
  | ok a env S => exact fun W' H' l m => Post.le h l
  | err x env S => exact h
  | stuck => exact h
end

/-- an expression: its value -/
def teOf (C : Ctx) (m : M D) : TE := fun σ H Q => ∃ B W L env S, Sim C.K B W L env S σ H ∧ Post C B L σ W (m env S) (fun d W' _ _ H' => ∀ v, Rep C.K W'.G W'.rho v d → Q v H')
/-- an operand: a value, or a local cell as it stands -/
inductive Opd where
  | d (x : D) | l (i : Nat)
def RepP (K : PySem.W.Frag) (W : Wd) (L : Nat → Addr) (v : V) : Opd → Prop
  | .d x => Rep K W.G W.rho v x
  | .l i => v = .ref (L i)
theorem RepP.mono {K : PySem.W.Frag} {W W' : Wd} {L : Nat → Addr} {v : V} {o : Opd} (l : W.Le W') (h : RepP K W L v o) : RepP K W' L v o := by
  cases o with
  | d x => exact Rep.mono l h
  | l i => exact h
def toOf (C : Ctx) (m : M Opd) : TE := fun σ H Q => ∃ B W L env S, Sim C.K B W L env S σ H ∧ Post C B L σ W (m env S) (fun d W' _ _ H' => ∀ v, RepP C.K W' L v d → Q v H')
/-- a fresh object of one's own -/
def tnOf (C : Ctx) (m : M D) : TE := fun σ H Q => ∃ B W L env S, Sim C.K B W L env S σ H ∧ Post C B L σ W (m env S) (fun d W' env' _ H' => ∀ p, Own C.K B W' L env' H' p d → Q (.ref p) H')
def taOf (C : Ctx) (m : M (List D)) : TA := fun σ H Q => ∃ B W L env S, Sim C.K B W L env S σ H ∧ Post C B L σ W (m env S) (fun d W' _ _ H' => ∀ vs, Reps C.K W'.G W'.rho vs d → Q vs H')
inductive RepPs (K : PySem.W.Frag) (W : Wd) (L : Nat → Addr) : List V → List Opd → Prop
  | nil : RepPs K W L [] []
  | cons {v : V} {vs : List V} {o : Opd} {os : List Opd} (h : RepP K W L v o) (t : RepPs K W L vs os) : RepPs K W L (v :: vs) (o :: os)
theorem RepPs.mono {K : PySem.W.Frag} {W W' : Wd} {L : Nat → Addr} (l : W.Le W') : ∀ {vs : List V} {os : List Opd}, RepPs K W L vs os → RepPs K W' L vs os
  | _, _, .nil => .nil
  | _, _, .cons h t => .cons (h.mono l) (RepPs.mono l t)
def taoOf (C : Ctx) (m : M (List Opd)) : TA := fun σ H Q => ∃ B W L env S, Sim C.K B W L env S σ H ∧ Post C B L σ W (m env S) (fun d W' _ _ H' => ∀ vs, RepPs C.K W' L vs d → Q vs H')
def ttOf (C : Ctx) (m : M Bool) : TT := fun σ H Q => ∃ B W L env S, Sim C.K B W L env S σ H ∧ Post C B L σ W (m env S) (fun b _ _ _ H' => Q b H')

/-- the body's context -/
structure Okc (X : Cx) (C : Ctx) (k : Nat) : Prop where
  calm : X.calm = true
  nd : X.N.Nodup
  room : Room k X.A
  tk : L2N.Takes X (fun c d _ H => C.wish c d H)
  hK : X.K = C.K

abbrev E (X : Cx) (C : Ctx) (e : Expr) (m : M D) : Prop := PE X e (teOf C m)
abbrev EO (X : Cx) (C : Ctx) (e : Expr) (m : M Opd) : Prop := PE X e (toOf C m)
abbrev EN (X : Cx) (C : Ctx) (e : Expr) (m : M D) : Prop := PE X e (tnOf C m)
abbrev EA (X : Cx) (C : Ctx) (es : List Expr) (m : M (List D)) : Prop := PA X es (taOf C m)
abbrev EAO (X : Cx) (C : Ctx) (es : List Expr) (m : M (List Opd)) : Prop := PA X es (taoOf C m)
abbrev EB (X : Cx) (C : Ctx) (e : Expr) (m : M Bool) : Prop := PT X e (ttOf C m)

theorem PE.imp {X : Cx} {e : Expr} {t t' : TE} (h : PE X e t) (k : ∀ σ H Q, t' σ H Q → t σ H Q) : PE X e t' := ⟨fun pins s σ H Q I q => h.run pins s σ H Q I (k σ H Q q)⟩
theorem PT.imp {X : Cx} {e : Expr} {t t' : TT} (h : PT X e t) (k : ∀ σ H Q, t' σ H Q → t σ H Q) : PT X e t' := ⟨fun pins s σ H Q I q => h.run pins s σ H Q I (k σ H Q q)⟩
theorem PA.imp {X : Cx} {e : List Expr} {t t' : TA} (h : PA X e t) (k : ∀ σ H Q, t' σ H Q → t σ H Q) : PA X e t' := ⟨fun pos pins s σ H Q I q => h.run pos pins s σ H Q I (k σ H Q q)⟩
theorem PW.imp {X : Cx} {e : Expr} {t t' : TT} (h : PW X e t) (k : ∀ σ H Q, t' σ H Q → t σ H Q) : PW X e t' := ⟨fun wh pins s σ H Q I q => h.run wh pins s σ H Q I (k σ H Q q)⟩
theorem PS.imp {X : Cx} {e : Stmt} {t t' : TS} (h : PS X e t) (k : ∀ D σ H, t' D σ H → t D σ H) : PS X e t' := ⟨fun pins s σ H D I q => h.run pins s σ H D I (k D σ H q)⟩
theorem PSs.imp {X : Cx} {e : List Stmt} {t t' : TS} (h : PSs X e t) (k : ∀ D σ H, t' D σ H → t D σ H) : PSs X e t' := ⟨fun pins s σ H D I q => h.run pins s σ H D I (k D σ H q)⟩
theorem PE.or {X : Cx} {e : Expr} {t t' : TE} (h : PE X e t) (h' : PE X e t') : PE X e (fun σ H Q => t σ H Q ∨ t' σ H Q) := ⟨fun pins s σ H Q I q => q.elim (h.run pins s σ H Q I) (h'.run pins s σ H Q I)⟩

/-! ### resolving an operand -/
def resO (env : List Slot) (S : List D) : Opd → Option D
  | .d (.ref n) => S[n]?
  | .d x => some x
  | .l i => match env[i]? with
    | some (.loc d) => some d
    | _ => none
def resL (env : List Slot) (S : List D) : List Opd → Option (List D)
  | [] => some []
  | o :: os => match resO env S o with
    | some d => (match resL env S os with
      | some ds => some (d :: ds)
      | none => none)
    | none => none
inductive RepHs (K : PySem.W.Frag) (W : Wd) (H : Hp) : List V → List D → Prop
  | nil : RepHs K W H [] []
  | cons {v : V} {vs : List V} {d : D} {ds : List D} (h : RepH K W H v d) (t : RepHs K W H vs ds) : RepHs K W H (v :: vs) (d :: ds)
section
variable {K : PySem.W.Frag} {B : Bs} {W : Wd} {L : Nat → Addr} {env : List Slot} {S : List D} {σ : St} {H : Hp} {v : V} {d : D}
theorem Sim.res (m : Sim K B W L env S σ H) {o : Opd} (h : RepP K W L v o) (e : resO env S o = some d) : RepH K W H v d := by
  cases o with
  | d x =>
    cases x with
    | ref n =>
      obtain ⟨p, rfl, hp⟩ := Rep.ref_inv (show Rep K W.G W.rho v (.ref n) from h)
      exact .inr ⟨p, rfl, m.s.cell n d p e hp⟩
    | _ => cases e; exact .inl h
  | l i =>
    have hv : v = .ref (L i) := h
    subst hv
    have e' : (match env[i]? with
      | some (.loc d) => some d
      | _ => none) = some d := e
    cases q : env[i]? with
    | none => rw [q] at e'; cases e'
    | some s =>
      rw [q] at e'
      cases s with
      | loc c =>
        have ec : c = d := Option.some.inj e'
        rw [← ec]
        exact .inr ⟨L i, rfl, (m.loc i c q).2.1⟩
      | none => cases e'
      | val c => cases e'
theorem Sim.resL (m : Sim K B W L env S σ H) : ∀ {vs : List V} {os : List Opd} {ds : List D}, RepPs K W L vs os → resL env S os = some ds → RepHs K W H vs ds
  | _, _, _, .nil, e => by cases e; exact .nil
  | _, _, ds, .cons (o := o) (os := os) h t, e => by
    unfold Vf.resL at e
    cases q : resO env S o with
    | none => rw [q] at e; cases e
    | some d =>
      rw [q] at e
      cases q2 : Vf.resL env S os with
      | none => simp only [q2] at e; cases e
      | some ds' =>
        simp only [q2] at e
        cases e
        exact .cons (m.res h q) (Sim.resL m t q2)
/-! ### what a read value is -/
def Fz (W : Wd) (H : Hp) : Prop := ∀ a o, W.G a = some o → H a = some o
theorem RepH.lst_inv {xs : List D} (f : Fz W H) (h : RepH K W H v (.lst xs)) : ∃ p vs, v = .ref p ∧ H p = some (.lst vs) ∧ Reps K W.G W.rho vs xs := by
  rcases h with h | ⟨p, rfl, o, e, r⟩
  · cases h with
    | obj h r => cases r with | lst r => exact ⟨_, _, rfl, f _ _ h, r⟩
  · cases r with | lst r => exact ⟨_, _, rfl, e, r⟩
theorem RepH.tup_inv {xs : List D} (f : Fz W H) (h : RepH K W H v (.tup xs)) : ∃ p vs, v = .ref p ∧ H p = some (.tup vs) ∧ Reps K W.G W.rho vs xs := by
  rcases h with h | ⟨p, rfl, o, e, r⟩
  · cases h with
    | obj h r => cases r with | tup r => exact ⟨_, _, rfl, f _ _ h, r⟩
  · cases r with | tup r => exact ⟨_, _, rfl, e, r⟩
theorem RepH.dk_inv {ks : List Key} {xs : List D} (f : Fz W H) (h : RepH K W H v (.dk ks xs)) : ∃ p vs, v = .ref p ∧ H p = some (.dK (ks.zip vs)) ∧ ks.length = vs.length ∧ Reps K W.G W.rho vs xs := by
  rcases h with h | ⟨p, rfl, o, e, r⟩
  · cases h with
    | obj h r => cases r with | dk l r => exact ⟨_, _, rfl, f _ _ h, l, r⟩
  · cases r with | dk l r => exact ⟨_, _, rfl, e, l, r⟩
theorem RepH.dt_inv {ks : List (List Key)} {xs : List D} (f : Fz W H) (h : RepH K W H v (.dt ks xs)) : ∃ p vs, v = .ref p ∧ H p = some (.dT (ks.zip vs)) ∧ ks.length = vs.length ∧ Reps K W.G W.rho vs xs := by
  rcases h with h | ⟨p, rfl, o, e, r⟩
  · cases h with
    | obj h r => cases r with | dt l r => exact ⟨_, _, rfl, f _ _ h, l, r⟩
  · cases r with | dt l r => exact ⟨_, _, rfl, e, l, r⟩
theorem RepH.ins_inv {c : Str} {ns : List Str} {xs : List D} (f : Fz W H) (h : RepH K W H v (.ins c ns xs)) : ∃ p dx vs, v = .ref p ∧ H p = some (.ins (He.ga K c) dx (ns.zip vs)) ∧ ns.length = vs.length ∧ Reps K W.G W.rho vs xs := by
  rcases h with h | ⟨p, rfl, o, e, r⟩
  · cases h with
    | obj h r => cases r with | ins l r => exact ⟨_, _, _, rfl, f _ _ h, l, r⟩
  · cases r with | ins l r => exact ⟨_, _, _, rfl, e, l, r⟩
theorem RepH.int_inv {i : Int} (h : RepH K W H v (.int i)) : v = .int i := by
  rcases h with h | ⟨p, rfl, o, e, r⟩
  · exact h.int_inv
  · cases r
theorem RepH.str_inv {i : Str} (h : RepH K W H v (.str i)) : v = .str i := by
  rcases h with h | ⟨p, rfl, o, e, r⟩
  · exact h.str_inv
  · cases r
theorem RepH.bl_inv {i : Bool} (h : RepH K W H v (.bl i)) : v = .bl i := by
  rcases h with h | ⟨p, rfl, o, e, r⟩
  · exact h.bl_inv
  · cases r
theorem RepH.non_inv (h : RepH K W H v .non) : v = .non := by
  rcases h with h | ⟨p, rfl, o, e, r⟩
  · exact h.non_inv
  · cases r
end

/-! ### names, constants -/
def mVar (i : Nat) : M D := fun env S => match env[i]? with
  | some (.val d) => .ok d env S
  | some (.loc d) => .ok d (env.set i (.val d)) S
  | _ => .stuck
def mCst (d : D) : M D := fun env S => .ok d env S
def oVal (m : M D) : M Opd := fun env S => (m env S).bind fun d env S => .ok (.d d) env S
def oLoc (i : Nat) : M Opd := fun env S => match env[i]? with
  | some (.loc _) => .ok (.l i) env S
  | some (.val d) => .ok (.d d) env S
  | _ => .stuck
section
variable {X : Cx} {C : Ctx} {k : Nat}
theorem e_var (i : Nat) {x : Str} {pos : Pos} (hN : X.N[i]? = some x := by rfl) (hv : Vis X.env.scope x := by first | exact Or.inl rfl | exact Or.inr (Or.inl rfl) | exact Or.inr (Or.inr rfl)) (hd : (x == ("__debug__" : Str)) = false := by decide)
    (hcd : (x == ("__classdict__" : Str)) = false := by decide) : E X C (.Name x pos) (mVar i) := by
  refine PE.imp (pe_var hN hv hd hcd) fun σ H Q ⟨B, W, L, env, S, m, p⟩ => ?_
  unfold mVar at p
  cases q : env[i]? with
  | none => rw [q] at p; exact p.elim
  | some s =>
    rw [q] at p
    cases s with
    | none => exact p.elim
    | val d =>
      obtain ⟨v, e, r⟩ := m.val i d q
      exact ⟨v, e, p W H (Wd.Le.refl W) m v r⟩
    | loc d =>
      obtain ⟨W', le, m', r⟩ := m.frzLoc q
      exact ⟨_, (m.loc i d q).1, p W' H le m' _ r⟩
theorem o_loc (i : Nat) {x : Str} {pos : Pos} (hN : X.N[i]? = some x := by rfl) (hv : Vis X.env.scope x := by first | exact Or.inl rfl | exact Or.inr (Or.inl rfl) | exact Or.inr (Or.inr rfl)) (hd : (x == ("__debug__" : Str)) = false := by decide)
    (hcd : (x == ("__classdict__" : Str)) = false := by decide) : EO X C (.Name x pos) (oLoc i) := by
  refine PE.imp (pe_var hN hv hd hcd) fun σ H Q ⟨B, W, L, env, S, m, p⟩ => ?_
  unfold oLoc at p
  cases q : env[i]? with
  | none => rw [q] at p; exact p.elim
  | some s =>
    rw [q] at p
    cases s with
    | none => exact p.elim
    | val d =>
      obtain ⟨v, e, r⟩ := m.val i d q
      exact ⟨v, e, p W H (Wd.Le.refl W) m v r⟩
    | loc d => exact ⟨_, (m.loc i d q).1, p W H (Wd.Le.refl W) m _ rfl⟩
theorem o_val {e : Expr} {m : M D} (h : E X C e m) : EO X C e (oVal m) := by
  refine PE.imp h fun σ H Q ⟨B, W, L, env, S, m, p⟩ => ⟨B, W, L, env, S, m, ?_⟩
  exact (Post.bind p).mono fun d W' env' S' H' le m' q v r => q W' H' (Wd.Le.refl W') m' v r
theorem e_cst {e : Expr} {d : D} {v : V} (h : PE X e (tC v)) (r : ∀ K G rho, Rep K G rho v d) : E X C e (mCst d) :=
  PE.imp h fun σ H Q ⟨B, W, L, env, S, m, p⟩ => p W H (Wd.Le.refl W) m v (r _ _ _)
theorem e_int {i j pos} : E X C (.Constant (.int i) j pos) (mCst (.int i)) := e_cst pe_int fun _ _ _ => .int i
theorem e_bl {i j pos} : E X C (.Constant (.bool i) j pos) (mCst (.bl i)) := e_cst pe_bl fun _ _ _ => .bl i
theorem e_non {j pos} : E X C (.Constant .none j pos) (mCst .non) := e_cst pe_non fun _ _ _ => .non
theorem e_str {i j pos} : E X C (.Constant (.str i) j pos) (mCst (.str i)) := e_cst pe_str fun _ _ _ => .str i
/-- a module's int, text -/
theorem e_glob {x : Str} {v : V} {d : D} {pos : Pos} (hg : Gl X x) (hm : ∃ u, X.mg x = some u ∧ RelV v u) (r : ∀ K G rho, Rep K G rho v d) (hd : (x == ("__debug__" : Str)) = false := by decide) : E X C (.Name x pos) (mCst d) := by
  obtain ⟨u, h1, h2⟩ := hm
  exact e_cst (pe_glob hg h1 h2 hd) r
end

/-! ### two-place operations -/
def mOp2 (f : D → D → Option D) (ma mb : M Opd) : M D := fun env S => (ma env S).bind fun a env S => (mb env S).bind fun b env S => match resO env S a, resO env S b with
  | some x, some y => Res.lift (f x y) env S
  | _, _ => .stuck
/-- r does what f says -/
def OpD (K : PySem.W.Frag) (r : R2) (f : D → D → Option D) : Prop := ∀ (W : Wd) (H : Hp) (v u : V) (a b d : D) (Q : VK), Fz W H → RepH K W H v a → RepH K W H u b → f a b = some d → (∀ v' H' W', Yield K W H d v' H' W' → Q v' H') → r v u H Q
section
variable {X : Cx} {C : Ctx} {k : Nat} {ma mb : M Opd} {a b : Expr} {pos : Pos} {r : R2} {f : D → D → Option D}
theorem post_yield {B : Bs} {L : Nat → Addr} {σ : St} {W : Wd} {env : List Slot} {S : List D} {H : Hp} {o : Option D} {Q : VK} (m : Sim C.K B W L env S σ H)
    (p : Post C B L σ W (Res.lift o env S) (fun d W' _ _ H' => ∀ v, Rep C.K W'.G W'.rho v d → Q v H')) : ∃ d, o = some d ∧ ∀ v' H' W', Yield C.K W H d v' H' W' → Q v' H' := by
  cases o with
  | none => exact p.elim
  | some d =>
    refine ⟨d, rfl, fun v' H' W' y => ?_⟩
    obtain ⟨le, m', rr⟩ := m.yield y
    exact p W' H' le m' v' rr
theorem tOp_of (hr : OpD C.K r f) {σ : St} {H : Hp} {Q : VK} (h : teOf C (mOp2 f ma mb) σ H Q) : tOp r (toOf C ma) (toOf C mb) σ H Q := by
  obtain ⟨B, W, L, env, S, m, p⟩ := h
  refine ⟨B, W, L, env, S, m, (Post.bind p).mono fun x W1 env1 S1 H1 le1 m1 p1 v rv => ?_⟩
  refine ⟨B, W1, L, env1, S1, m1, (Post.bind p1).mono fun y W2 env2 S2 H2 le2 m2 p2 u ru => ?_⟩
  cases q1 : resO env2 S2 x with
  | none => simp only [q1] at p2; exact p2.elim
  | some dx =>
    cases q2 : resO env2 S2 y with
    | none => simp only [q1, q2] at p2; exact p2.elim
    | some dy =>
      simp only [q1, q2] at p2
      obtain ⟨d, e, hy⟩ := post_yield m2 p2
      exact hr W2 H2 v u dx dy d Q m2.s.ex (m2.res (rv.mono le2) q1) (m2.res ru q2) e hy
theorem e_op {op : Operator} (ho : OpR X (binaryOp op) r) (hr : OpD C.K r f) (ha : EO X C a ma) (hb : EO X C b mb) : E X C (.BinOp a op b pos) (mOp2 f ma mb) :=
  PE.imp (pe_op ho ha hb) fun σ H Q h => tOp_of hr h
theorem e_cmp {op : CmpOp} (ho : OpR X (compareOp op) r) (hr : OpD C.K r f) (ha : EO X C a ma) (hb : EO X C b mb) (hm : behindInMarks op b = false := by first | rfl | exact nomark _) : E X C (.Compare a [op] [b] pos) (mOp2 f ma mb) :=
  PE.imp (pe_cmpR ho ha hb hm) fun σ H Q h => tOp_of hr h
theorem e_ix (ho : IxR X r) (hr : OpD C.K r f) (ha : EO X C a ma) (hb : EO X C b mb) (hs : PlainIx b := by exact fun _ _ => rfl) : E X C (.Subscript a b pos) (mOp2 f ma mb) :=
  PE.imp (pe_ix ho ha hb hs) fun σ H Q h => tOp_of hr h
end
/-- the truth of an answer -/
def bOf (m : M D) : M Bool := fun env S => (m env S).bind fun d env S => match d with
  | .bl b => .ok b env S
  | _ => .stuck
section
variable {X : Cx} {C : Ctx} {k : Nat} {ma mb : M Opd} {a b : Expr} {pos : Pos} {r : R2} {f : D → D → Option D}
theorem bOf_te {m : M D} {σ : St} {H : Hp} {Q : Bool → Hp → Prop} (h : ttOf C (bOf m) σ H Q) : teOf C m σ H (fun x H' => ∃ k, x = .bl k ∧ Q k H') := by
  obtain ⟨B, W, L, env, S, m, p⟩ := h
  refine ⟨B, W, L, env, S, m, (Post.bind p).mono fun d W' env' S' H' le m' q v r => ?_⟩
  cases d with
  | bl b =>
    have := r.bl_inv
    subst this
    exact ⟨b, rfl, q W' H' (Wd.Le.refl W') m'⟩
  | _ => exact q.elim
theorem b_cmp {op : CmpOp} (ho : OpR X (compareOp op) r) (hr : OpD C.K r f) (ha : EO X C a ma) (hb : EO X C b mb) (hm : behindInMarks op b = false := by first | rfl | exact nomark _) : EB X C (.Compare a [op] [b] pos) (bOf (mOp2 f ma mb)) :=
  PT.imp (pt_cmpR ho ha hb hm) fun σ H Q h => tOp_of hr (bOf_te h)
end

/-! ### truth, and, or, not -/
def dTru : D → Option Bool
  | .non => some false
  | .bl b => some b
  | .int i => some (i != 0)
  | .str x => if x.length ≤ sizeLine then some ((x.length : Int) != 0) else none
  | .lst xs => some (!xs.isEmpty)
  | .tup xs => some (!xs.isEmpty)
  | .dk ks _ => some (!ks.isEmpty)
  | _ => none
theorem isEmpty_len {α β : Type} {l : List α} {l' : List β} (h : l.length = l'.length) : l.isEmpty = l'.isEmpty := by
  cases l <;> cases l' <;> simp_all
theorem tru_of {K : PySem.W.Frag} {W : Wd} {H : Hp} {v : V} {d : D} {b : Bool} (f : Fz W H) (h : RepH K W H v d) (e : dTru d = some b) : TruV K v H b := by
  cases d with
  | non => cases e; rw [h.non_inv]; rfl
  | bl x => cases e; rw [h.bl_inv]; rfl
  | int x => cases e; rw [h.int_inv]; rfl
  | str x =>
    rw [h.str_inv]
    have e' : (if x.length ≤ sizeLine then some ((x.length : Int) != 0) else none) = some b := e
    by_cases hz : x.length ≤ sizeLine
    · rw [if_pos hz] at e'; cases e'; exact ⟨hz, rfl⟩
    · rw [if_neg hz] at e'; cases e'
  | lst xs =>
    cases e
    obtain ⟨p, vs, rfl, hp, r⟩ := h.lst_inv f
    exact .inl ⟨vs, .of hp, by rw [isEmpty_len r.length]⟩
  | tup xs =>
    cases e
    obtain ⟨p, vs, rfl, hp, r⟩ := h.tup_inv f
    exact .inr (.inl ⟨vs, .of hp, by rw [isEmpty_len r.length]⟩)
  | dk ks xs =>
    cases e
    obtain ⟨p, vs, rfl, hp, l, r⟩ := h.dk_inv f
    refine .inr (.inr ⟨_, hp, ?_⟩)
    rw [isEmpty_len (l := ks.zip vs) (l' := ks) (by rw [List.length_zip]; omega)]
  | _ => cases e
def bTru (m : M Opd) : M Bool := fun env S => (m env S).bind fun o env S => match resO env S o with
  | some d => Res.lift (dTru d) env S
  | none => .stuck
def bNot (m : M Bool) : M Bool := fun env S => (m env S).bind fun b env S => .ok (!b) env S
def bAnd (m n : M Bool) : M Bool := fun env S => (m env S).bind fun b env S => if b = true then n env S else .ok false env S
def bOr (m n : M Bool) : M Bool := fun env S => (m env S).bind fun b env S => if b = true then .ok true env S else n env S
section
variable {X : Cx} {C : Ctx} {k : Nat} {ma mb : M Bool} {mo : M Opd} {a b : Expr} {rest : List Expr} {pos : Pos}
theorem b_tru (h : EO X C a mo) (he : ∀ whole, isTrue a X.env whole = (do let v ← whole; standAt a.pos; holding [v] (truthy v)) := by intro _; rfl) (hK : X.K = C.K := by rfl) : EB X C a (bTru mo) := by
  refine PT.imp (pt_truth h he) fun σ H Q ⟨B, W, L, env, S, m, p⟩ => ?_
  refine ⟨B, W, L, env, S, m, (Post.bind p).mono fun o W' env' S' H' le m' q v r => ?_⟩
  cases e : resO env' S' o with
  | none => simp only [e] at q; exact q.elim
  | some d =>
    simp only [e] at q
    cases e2 : dTru d with
    | none => rw [e2] at q; exact q.elim
    | some b =>
      rw [e2] at q
      rw [hK]
      exact ⟨b, tru_of m'.s.ex (m'.res r e) e2, q W' H' (Wd.Le.refl W') m'⟩
theorem b_not (h : EB X C a ma) : EB X C (.UnaryOp .Not a pos) (bNot ma) := by
  refine PT.imp (pt_not h) fun σ H Q ⟨B, W, L, env, S, m, p⟩ => ?_
  exact ⟨B, W, L, env, S, m, (Post.bind p).mono fun b W' env' S' H' le m' q => q W' H' (Wd.Le.refl W') m'⟩
/-- the parts of a chain of and, or -/
abbrev EW (X : Cx) (C : Ctx) (e : Expr) (m : M Bool) : Prop := PW X e (ttOf C m)
theorem w_and1 (h : EB X C a ma) : EW X C (.BoolOp .And [a] pos) ma := pw_and1 h
theorem w_or1 (h : EB X C a ma) : EW X C (.BoolOp .Or [a] pos) ma := pw_or1 h
theorem w_and (h : EB X C a ma) (h2 : EW X C (.BoolOp .And (b :: rest) pos) mb) : EW X C (.BoolOp .And (a :: b :: rest) pos) (bAnd ma mb) := by
  refine PW.imp (pw_and h h2) fun σ H Q ⟨B, W, L, env, S, m, p⟩ => ?_
  refine ⟨B, W, L, env, S, m, (Post.bind p).mono fun b W' env' S' H' le m' q => ?_⟩
  cases b with
  | true => simp only [if_true] at q ⊢; exact ⟨B, W', L, env', S', m', q⟩
  | false => simp only [Bool.false_eq_true, if_false] at q ⊢; exact q W' H' (Wd.Le.refl W') m'
theorem w_or (h : EB X C a ma) (h2 : EW X C (.BoolOp .Or (b :: rest) pos) mb) : EW X C (.BoolOp .Or (a :: b :: rest) pos) (bOr ma mb) := by
  refine PW.imp (pw_or h h2) fun σ H Q ⟨B, W, L, env, S, m, p⟩ => ?_
  refine ⟨B, W, L, env, S, m, (Post.bind p).mono fun b W' env' S' H' le m' q => ?_⟩
  cases b with
  | false => simp only [Bool.false_eq_true, if_false] at q ⊢; exact ⟨B, W', L, env', S', m', q⟩
  | true => simp only [if_true] at q ⊢; exact q W' H' (Wd.Le.refl W') m'
theorem b_w (h : EW X C a ma) : EB X C a ma := h.pt
/-! as values (bools) -/
def vAnd (m n : M D) : M D := fun env S => (m env S).bind fun d env S => match d with
  | .bl b => if b = true then n env S else .ok (.bl false) env S
  | _ => .stuck
def vOr (m n : M D) : M D := fun env S => (m env S).bind fun d env S => match d with
  | .bl b => if b = true then .ok (.bl true) env S else n env S
  | _ => .stuck
def vNot (m : M D) : M D := fun env S => (m env S).bind fun d env S => match d with
  | .bl b => .ok (.bl (!b)) env S
  | _ => .stuck
variable {va vb : M D}
theorem v_one {op} (h : E X C a va) : E X C (.BoolOp op [a] pos) va := pe_one h
theorem v_and (h : E X C a va) (h2 : E X C (.BoolOp .And (b :: rest) pos) vb) : E X C (.BoolOp .And (a :: b :: rest) pos) (vAnd va vb) := by
  refine PE.imp (pe_and h h2) fun σ H Q ⟨B, W, L, env, S, m, p⟩ => ?_
  refine ⟨B, W, L, env, S, m, (Post.bind p).mono fun d W' env' S' H' le m' q v r => ?_⟩
  cases d with
  | bl b =>
    refine ⟨b, r.bl_inv, ?_⟩
    cases b with
    | true => simp only [if_true] at q ⊢; exact ⟨B, W', L, env', S', m', q⟩
    | false => simp only [Bool.false_eq_true, if_false] at q ⊢; exact q W' H' (Wd.Le.refl W') m' _ (.bl false)
  | _ => exact q.elim
theorem v_or (h : E X C a va) (h2 : E X C (.BoolOp .Or (b :: rest) pos) vb) : E X C (.BoolOp .Or (a :: b :: rest) pos) (vOr va vb) := by
  refine PE.imp (pe_or h h2) fun σ H Q ⟨B, W, L, env, S, m, p⟩ => ?_
  refine ⟨B, W, L, env, S, m, (Post.bind p).mono fun d W' env' S' H' le m' q v r => ?_⟩
  cases d with
  | bl b =>
    refine ⟨b, r.bl_inv, ?_⟩
    cases b with
    | false => simp only [Bool.false_eq_true, if_false] at q ⊢; exact ⟨B, W', L, env', S', m', q⟩
    | true => simp only [if_true] at q ⊢; exact q W' H' (Wd.Le.refl W') m' _ (.bl true)
  | _ => exact q.elim
theorem v_not (h : E X C a va) : E X C (.UnaryOp .Not a pos) (vNot va) := by
  refine PE.imp (pe_not h) fun σ H Q ⟨B, W, L, env, S, m, p⟩ => ?_
  refine ⟨B, W, L, env, S, m, (Post.bind p).mono fun d W' env' S' H' le m' q v r => ?_⟩
  cases d with
  | bl b => exact ⟨b, r.bl_inv, q W' H' (Wd.Le.refl W') m' _ (.bl _)⟩
  | _ => exact q.elim
/-- a if t else b -/
def mIte (t : M Bool) (m n : M D) : M D := fun env S => (t env S).bind fun b env S => if b = true then m env S else n env S
theorem e_ite {c : Expr} (hc : EB X C c ma) (h1 : E X C a va) (h2 : E X C b vb) : E X C (.IfExp c a b pos) (mIte ma va vb) := by
  refine PE.imp (pe_ifExp hc h1 h2) fun σ H Q ⟨B, W, L, env, S, m, p⟩ => ?_
  refine ⟨B, W, L, env, S, m, (Post.bind p).mono fun b W' env' S' H' le m' q => ?_⟩
  cases b with
  | true => simp only [if_true] at q ⊢; exact ⟨B, W', L, env', S', m', q⟩
  | false => simp only [Bool.false_eq_true, if_false] at q ⊢; exact ⟨B, W', L, env', S', m', q⟩
/-- two readings of one expression -/
def mOr (m n : M D) : M D := fun env S => match m env S with
  | .stuck => n env S
  | r => r
theorem e_or {e : Expr} (h1 : E X C e va) (h2 : E X C e vb) : E X C e (mOr va vb) := by
  refine PE.imp (PE.or h1 h2) fun σ H Q ⟨B, W, L, env, S, m, p⟩ => ?_
  unfold mOr at p
  cases q : va env S with
  | stuck => rw [q] at p; exact .inr ⟨B, W, L, env, S, m, p⟩
  | ok d env' S' => rw [q] at p; refine .inl ⟨B, W, L, env, S, m, ?_⟩; rw [q]; exact p
  | err x env' S' => rw [q] at p; refine .inl ⟨B, W, L, env, S, m, ?_⟩; rw [q]; exact p
end

/-! ### argument lists, displays -/
def aNil : M (List D) := fun env S => .ok [] env S
def aCons (m : M D) (n : M (List D)) : M (List D) := fun env S => (m env S).bind fun d env S => (n env S).bind fun ds env S => .ok (d :: ds) env S
def aoNil : M (List Opd) := fun env S => .ok [] env S
def aoCons (m : M Opd) (n : M (List Opd)) : M (List Opd) := fun env S => (m env S).bind fun d env S => (n env S).bind fun ds env S => .ok (d :: ds) env S
def mTup (m : M (List D)) : M D := fun env S => (m env S).bind fun ds env S => if ds.length ≤ sizeLine then .ok (.tup ds) env S else .stuck
def nLst (m : M (List D)) : M D := fun env S => (m env S).bind fun ds env S => if ds.length ≤ sizeLine then .ok (.lst ds) env S else .stuck
section
variable {X : Cx} {C : Ctx} {e : Expr} {es : List Expr} {m : M D} {n : M (List D)} {mo : M Opd} {no : M (List Opd)} {pos : Pos}
theorem a_nil : EA X C [] aNil := PA.imp pa_nil fun σ H Q ⟨B, W, L, env, S, m, p⟩ => p W H (Wd.Le.refl W) m [] .nil
theorem a_cons (h : E X C e m) (hr : EA X C es n) (hs : starEach (e :: es) X.env = (false, eval e X.env) :: starEach es X.env := by rfl) : EA X C (e :: es) (aCons m n) := by
  refine PA.imp (pa_cons h hr hs) fun σ H Q ⟨B, W, L, env, S, m, p⟩ => ?_
  refine ⟨B, W, L, env, S, m, (Post.bind p).mono fun d W1 env1 S1 H1 le1 m1 p1 v r => ?_⟩
  refine ⟨B, W1, L, env1, S1, m1, (Post.bind p1).mono fun ds W2 env2 S2 H2 le2 m2 p2 vs rs => ?_⟩
  exact p2 W2 H2 (Wd.Le.refl W2) m2 (v :: vs) (.cons (r.mono le2) rs)
theorem ao_nil : EAO X C [] aoNil := PA.imp pa_nil fun σ H Q ⟨B, W, L, env, S, m, p⟩ => p W H (Wd.Le.refl W) m [] .nil
theorem ao_cons (h : EO X C e mo) (hr : EAO X C es no) (hs : starEach (e :: es) X.env = (false, eval e X.env) :: starEach es X.env := by rfl) : EAO X C (e :: es) (aoCons mo no) := by
  refine PA.imp (pa_cons h hr hs) fun σ H Q ⟨B, W, L, env, S, m, p⟩ => ?_
  refine ⟨B, W, L, env, S, m, (Post.bind p).mono fun d W1 env1 S1 H1 le1 m1 p1 v r => ?_⟩
  refine ⟨B, W1, L, env1, S1, m1, (Post.bind p1).mono fun ds W2 env2 S2 H2 le2 m2 p2 vs rs => ?_⟩
  exact p2 W2 H2 (Wd.Le.refl W2) m2 (v :: vs) (.cons (r.mono le2) rs)
theorem e_tup {x1} (h : EA X C es n) : E X C (.Tuple es x1 pos) (mTup n) := by
  refine PE.imp (pe_tup h) fun σ H Q ⟨B, W, L, env, S, m, p⟩ => ?_
  refine ⟨B, W, L, env, S, m, (Post.bind p).mono fun ds W' env' S' H' le m' q vs r => ?_⟩
  by_cases hz : ds.length ≤ sizeLine
  · rw [if_pos hz] at q
    refine ⟨by rw [r.length]; exact hz, fun p0 hp => ?_⟩
    obtain ⟨l2, m2, r2⟩ := m'.yield (d := .tup ds) (.new hp (.tup r))
    exact q _ _ l2 m2 _ r2
  · rw [if_neg hz] at q; exact q.elim
theorem n_lst (h : EA X C es n) : EN X C (.List es pos) (nLst n) := by
  refine PE.imp (pe_lst h) fun σ H Q ⟨B, W, L, env, S, m, p⟩ => ?_
  refine ⟨B, W, L, env, S, m, (Post.bind p).mono fun ds W' env' S' H' le m' q vs r => ?_⟩
  by_cases hz : ds.length ≤ sizeLine
  · rw [if_pos hz] at q
    refine ⟨by rw [r.length]; exact hz, fun p0 hp => ?_⟩
    obtain ⟨m2, w⟩ := m'.own (d := .lst ds) hp (.lst r)
    exact q _ _ (Wd.Le.refl W') m2 p0 w
  · rw [if_neg hz] at q; exact q.elim
/-- a fresh object, frozen at once -/
theorem e_new (h : EN X C e m) : E X C e m := by
  refine PE.imp h fun σ H Q ⟨B, W, L, env, S, m, p⟩ => ⟨B, W, L, env, S, m, p.mono2 fun d W' env' S' H' le m' q p0 w => ?_⟩
  obtain ⟨W2, l2, m2, r⟩ := m'.frzOwn w
  exact q W2 H' l2 m2 _ r
end
end Vf
/-! Vf3: what is walked, targets, statements. -/
namespace Vf
open PySem PySem.Spec PyProof.Rows L2

theorem PI.imp {X : Cx} {tg e : Expr} {t t' : TI} (h : PI X tg e t) (k : ∀ σ H Q, t' σ H Q → t σ H Q) : PI X tg e t' := ⟨fun pins s σ H Q I q => h.run pins s σ H Q I (k σ H Q q)⟩
theorem PI.or {X : Cx} {tg e : Expr} {t t' : TI} (h : PI X tg e t) (h' : PI X tg e t') : PI X tg e (fun σ H Q => t σ H Q ∨ t' σ H Q) := ⟨fun pins s σ H Q I q => q.elim (h.run pins s σ H Q I) (h'.run pins s σ H Q I)⟩
theorem PG.imp {X : Cx} {tg : Expr} {t t' : TG} (h : PG X tg t) (k : ∀ v σ H Q, t' v σ H Q → t v σ H Q) : PG X tg t' := ⟨fun pins s σ H v u Q I r q => h.run pins s σ H v u Q I r (k v σ H Q q)⟩
theorem PGs.imp {X : Cx} {tg : List Expr} {t t' : TGs} (h : PGs X tg t) (k : ∀ v σ H Q, t' v σ H Q → t v σ H Q) : PGs X tg t' := ⟨fun pins s σ H v u Q I r q => h.run pins s σ H v u Q I r (k v σ H Q q)⟩

/-! ### what is walked: its items are known beforehand -/
structure Wk (K : PySem.W.Frag) (W : Wd) (J : It) (ds : List D) : Prop where
  go : ∀ (W2 : Wd) (H : Hp) (i : Nat) (d : D), W.Le W2 → Fz W2 H → ds[i]? = some d → J.go i H
  yld : ∀ (W2 : Wd) (H : Hp) (i : Nat) (d : D) (x : V) (H' : Hp), W.Le W2 → Fz W2 H → ds[i]? = some d → J.yld i H x H' → ∃ W', Yield K W2 H d x H' W'
  stop : ∀ (W2 : Wd) (H : Hp), W.Le W2 → Fz W2 H → J.stop ds.length H
def tiOf (C : Ctx) (m : M (List D)) : TI := fun σ H R => ∃ B W L env S, Sim C.K B W L env S σ H ∧ Post C B L σ W (m env S) (fun ds W' _ _ H' => ∀ J, Wk C.K W' J ds → R J H')
abbrev EI (X : Cx) (C : Ctx) (tg e : Expr) (m : M (List D)) : Prop := PI X tg e (tiOf C m)
def iSeq (m : M D) : M (List D) := fun env S => (m env S).bind fun d env S => match d with
  | .lst xs => .ok xs env S
  | .tup xs => .ok xs env S
  | _ => .stuck
def iOrd (lo : Int) (n : Nat) : List D := (List.range n).map fun i => D.int (lo + (i : Nat))
def iStrs (x : Str) : List D := x.cps.toList.map fun c => D.str ⟨#[c]⟩
def iSign (m : M D) : M (List D) := fun env S => (m env S).bind fun d env S => match d with
  | .str x => .ok (iStrs x) env S
  | _ => .stuck
def iR1 (m : M (List Opd)) : M (List D) := fun env S => (m env S).bind fun os env S => match resL env S os with
  | some [.int j] => if Ok62 j = true then .ok (iOrd 0 j.toNat) env S else .stuck
  | _ => .stuck
def iR2 (m : M (List Opd)) : M (List D) := fun env S => (m env S).bind fun os env S => match resL env S os with
  | some [.int i, .int j] => if (Ok62 i && Ok62 j) = true then .ok (iOrd i (j - i).toNat) env S else .stuck
  | _ => .stuck
def enumD (n : Nat) : List D → List D
  | [] => []
  | d :: ds => .tup [.int (n : Nat), d] :: enumD (n + 1) ds
theorem enumD_get : ∀ (n : Nat) (ds : List D) (i : Nat) (x : D), (enumD n ds)[i]? = some x → ∃ d, ds[i]? = some d ∧ x = .tup [.int ((n + i : Nat) : Nat), d]
  | _, [], i, x, e => by simp [enumD] at e
  | n, d :: ds, 0, x, e => by simp [enumD] at e; exact ⟨d, by simp, e.symm⟩
  | n, d :: ds, i + 1, x, e => by
    obtain ⟨d', h1, h2⟩ := enumD_get (n + 1) ds i x (by simpa [enumD] using e)
    refine ⟨d', by simpa using h1, ?_⟩
    rw [h2]
    have e1 : n + 1 + i = n + (i + 1) := by omega
    rw [e1]
theorem enumD_len : ∀ (n : Nat) (ds : List D), (enumD n ds).length = ds.length
  | _, [] => rfl
  | n, _ :: ds => congrArg Nat.succ (enumD_len (n + 1) ds)
/-- enumerate(list) -/
def iEnumM (m : M (List D)) : M (List D) := fun env S => (m env S).bind fun ds env S => match ds with
  | [.lst xs] => .ok (enumD 0 xs) env S
  | _ => .stuck
def iRevM (m : M (List D)) : M (List D) := fun env S => (m env S).bind fun ds env S => match ds with
  | [.lst xs] => .ok xs.reverse env S
  | _ => .stuck
def iZipM (m : M (List D)) : M (List D) := fun env S => (m env S).bind fun ds env S => match ds with
  | [.lst xs, .lst ys] => .ok ((xs.zip ys).map fun p => .tup [p.1, p.2]) env S
  | _ => .stuck
section
variable {X : Cx} {C : Ctx} {tg e : Expr} {m : M D} {k : Nat}
theorem wk_list {K : PySem.W.Frag} {W : Wd} {p : Addr} {vs : List V} {xs : List D} (h : W.G p = some (.lst vs)) (r : Reps K W.G W.rho vs xs) : Wk K W (Itl K p) xs := by
  have q : ∀ (W2 : Wd) (H : Hp), W.Le W2 → Fz W2 H → SqL K H p vs := fun W2 H l f => .of (f _ _ (l.g _ _ h))
  refine ⟨fun W2 H i d l f e => ?_, fun W2 H i d x H' l f e y => ?_, fun W2 H l f => ⟨vs, q W2 H l f, by rw [r.length]; exact Nat.le_refl _⟩⟩
  · obtain ⟨v, hv, _⟩ := r.get e
    exact ⟨vs, v, q W2 H l f, hv⟩
  · obtain ⟨v, hv, rv⟩ := r.get e
    obtain ⟨rfl, y⟩ := y
    have e2 := y vs (q W2 _ l f)
    rw [hv] at e2; cases e2
    exact ⟨W2, .same (rv.mono l)⟩
theorem wk_tup {K : PySem.W.Frag} {W : Wd} {p : Addr} {vs : List V} {xs : List D} (h : ∀ W2 H, W.Le W2 → Fz W2 H → SqT K H p vs) (r : Reps K W.G W.rho vs xs) : Wk K W (Itt K p) xs := by
  refine ⟨fun W2 H i d l f e => ?_, fun W2 H i d x H' l f e y => ?_, fun W2 H l f => ⟨vs, h W2 H l f, by rw [r.length]; exact Nat.le_refl _⟩⟩
  · obtain ⟨v, hv, _⟩ := r.get e
    exact ⟨vs, v, h W2 H l f, hv⟩
  · obtain ⟨v, hv, rv⟩ := r.get e
    obtain ⟨rfl, y⟩ := y
    have e2 := y vs (h W2 _ l f)
    rw [hv] at e2; cases e2
    exact ⟨W2, .same (rv.mono l)⟩
theorem Rep.lst_inv {K : PySem.W.Frag} {G : Hp} {rho : List Addr} {v : V} {xs : List D} (h : Rep K G rho v (.lst xs)) : ∃ p vs, v = .ref p ∧ G p = some (.lst vs) ∧ Reps K G rho vs xs := by
  cases h with
  | obj h r => cases r with | lst r => exact ⟨_, _, rfl, h, r⟩
theorem Rep.tup_inv {K : PySem.W.Frag} {W : Wd} {v : V} {xs : List D} (h : Rep K W.G W.rho v (.tup xs)) : ∃ p vs, v = .ref p ∧ (∀ W2 H, W.Le W2 → Fz W2 H → SqT K H p vs) ∧ Reps K W.G W.rho vs xs := by
  cases h with
  | obj h r => cases r with | tup r => exact ⟨_, _, rfl, fun W2 H l f => .of (f _ _ (l.g _ _ h)), r⟩
theorem i_seq (h : E X C e m) (hK : X.K = C.K := by rfl) : EI X C tg e (iSeq m) := by
  refine PI.imp (PI.or (pi_list h) (pi_tup h)) fun σ H R ⟨B, W, L, env, S, m0, p⟩ => ?_
  unfold iSeq at p
  cases q : m env S with
  | stuck => rw [q] at p; exact p.elim
  | err x env' S' => rw [q] at p; refine .inl ⟨B, W, L, env, S, m0, ?_⟩; rw [q]; exact p
  | ok d env' S' =>
    rw [q] at p
    cases d with
    | lst xs =>
      refine .inl ⟨B, W, L, env, S, m0, ?_⟩
      rw [q]
      intro W' H' l m1 v r
      obtain ⟨p0, vs, rfl, hp, rs⟩ := r.lst_inv
      rw [hK]
      exact ⟨p0, rfl, ⟨vs, .of (m1.s.ex _ _ hp)⟩, p W' H' l m1 _ (wk_list hp rs)⟩
    | tup xs =>
      refine .inr ⟨B, W, L, env, S, m0, ?_⟩
      rw [q]
      intro W' H' l m1 v r
      obtain ⟨p0, vs, rfl, hp, rs⟩ := Rep.tup_inv r
      rw [hK]
      exact ⟨p0, rfl, ⟨vs, hp W' H' (Wd.Le.refl W') m1.s.ex⟩, p W' H' l m1 _ (wk_tup hp rs)⟩
    | _ => exact p.elim
theorem i_str (h : E X C e m) : EI X C tg e (iSign m) := by
  refine PI.imp (pi_str h) fun σ H R ⟨B, W, L, env, S, m0, p⟩ => ?_
  refine ⟨B, W, L, env, S, m0, (Post.bind p).mono fun d W' env' S' H' le m' q v r => ?_⟩
  cases d with
  | str x =>
    have := r.str_inv
    subst this
    refine ⟨x, rfl, q W' H' (Wd.Le.refl W') m' _ ?_⟩
    have hl : (iStrs x).length = x.cps.size := by simp [iStrs]
    refine ⟨fun W2 H i d l f e => ?_, fun W2 H i d y H2 l f e yy => ?_, fun W2 H l f => by rw [hl]; exact Nat.le_refl _⟩
    · have := (List.getElem?_eq_some_iff.mp e).1
      rw [hl] at this; exact this
    · obtain ⟨rfl, c, hc, rfl⟩ := yy
      have e2 : (iStrs x)[i]? = some (D.str ⟨#[c]⟩) := by simp [iStrs, hc]
      rw [e2] at e; cases e
      exact ⟨W2, .same (.str _)⟩
  | _ => exact q.elim
theorem RepHs.one {K : PySem.W.Frag} {W : Wd} {H : Hp} {vs : List V} {d : D} (h : RepHs K W H vs [d]) : ∃ v, vs = [v] ∧ RepH K W H v d := by
  cases h with | cons h t => cases t; exact ⟨_, rfl, h⟩
theorem RepHs.two {K : PySem.W.Frag} {W : Wd} {H : Hp} {vs : List V} {d d' : D} (h : RepHs K W H vs [d, d']) : ∃ v v', vs = [v, v'] ∧ RepH K W H v d ∧ RepH K W H v' d' := by
  cases h with | cons h t => obtain ⟨v', rfl, h'⟩ := t.one; exact ⟨_, _, rfl, h, h'⟩
theorem wk_ord {K : PySem.W.Frag} {W : Wd} {lo : Int} {n : Nat} : Wk K W (Itr lo n) (iOrd lo n) := by
  have hl : (iOrd lo n).length = n := by simp [iOrd]
  refine ⟨fun W2 H i d l f e => ?_, fun W2 H i d x H' l f e y => ?_, fun W2 H l f => by rw [hl]; exact Nat.le_refl _⟩
  · have := (List.getElem?_eq_some_iff.mp e).1
    rw [hl] at this; exact this
  · obtain ⟨rfl, rfl⟩ := y
    have hi := (List.getElem?_eq_some_iff.mp e).1
    rw [hl] at hi
    have e2 : (iOrd lo n)[i]? = some (D.int (lo + (i : Nat))) := by simp [iOrd, hi]
    rw [e2] at e; cases e
    exact ⟨W2, .same (.int _)⟩
theorem i_range1 {a : Expr} {p pos : Pos} {ma : M (List Opd)} (hm : X.mg "range" = none) (ha : EAO X C [a] ma) (hg : Gl X "range" := by rfl) (hs : starEach [a] X.env = [(false, eval a X.env)] := by rfl) : EI X C tg (.Call (.Name "range" p) [a] [] pos) (iR1 ma) := by
  refine PI.imp (pi_range1 hg hm ha hs) fun σ H R ⟨B, W, L, env, S, m0, p⟩ => ?_
  refine ⟨B, W, L, env, S, m0, (Post.bind p).mono fun os W' env' S' H' le m' q vs r => ?_⟩
  cases e : resL env' S' os with
  | none => simp only [e] at q; exact q.elim
  | some ds =>
    rw [e] at q
    match ds, e, q with
    | [.int j], e, q =>
      obtain ⟨v, rfl, rv⟩ := (m'.resL r e).one
      have := rv.int_inv
      subst this
      by_cases hj : Ok62 j = true
      · have q' : Post C B L σ W' (if Ok62 j = true then .ok (iOrd 0 j.toNat) env' S' else .stuck) _ := q
        rw [if_pos hj] at q'
        exact ⟨j, rfl, (Ok62.lo hj).1, (Ok62.lo hj).2, q' W' H' (Wd.Le.refl W') m' _ wk_ord⟩
      · have q' : Post C B L σ W' (if Ok62 j = true then .ok (iOrd 0 j.toNat) env' S' else .stuck) _ := q
        rw [if_neg hj] at q'; exact q'.elim
theorem i_range2 {a b : Expr} {p pos : Pos} {ma : M (List Opd)} (hm : X.mg "range" = none) (ha : EAO X C [a, b] ma) (hg : Gl X "range" := by rfl) (hs : starEach [a, b] X.env = [(false, eval a X.env), (false, eval b X.env)] := by rfl) (hs2 : starEach [b] X.env = [(false, eval b X.env)] := by rfl) :
    EI X C tg (.Call (.Name "range" p) [a, b] [] pos) (iR2 ma) := by
  refine PI.imp (pi_range2 hg hm ha hs hs2) fun σ H R ⟨B, W, L, env, S, m0, p⟩ => ?_
  refine ⟨B, W, L, env, S, m0, (Post.bind p).mono fun os W' env' S' H' le m' q vs r => ?_⟩
  cases e : resL env' S' os with
  | none => simp only [e] at q; exact q.elim
  | some ds =>
    rw [e] at q
    match ds, e, q with
    | [.int i, .int j], e, q =>
      obtain ⟨v, v', rfl, rv, rv'⟩ := (m'.resL r e).two
      have := rv.int_inv
      subst this
      have := rv'.int_inv
      subst this
      have q' : Post C B L σ W' (if (Ok62 i && Ok62 j) = true then .ok (iOrd i (j - i).toNat) env' S' else .stuck) _ := q
      by_cases hj : (Ok62 i && Ok62 j) = true
      · rw [if_pos hj] at q'
        have hj' := Bool.and_eq_true_iff.mp hj
        exact ⟨i, j, rfl, ⟨(Ok62.lo hj'.1).1, (Ok62.lo hj'.1).2, (Ok62.lo hj'.2).1, (Ok62.lo hj'.2).2⟩, q' W' H' (Wd.Le.refl W') m' _ wk_ord⟩
      · rw [if_neg hj] at q'; exact q'.elim
theorem Reps.one {K : PySem.W.Frag} {G : Hp} {rho : List Addr} {vs : List V} {d : D} (h : Reps K G rho vs [d]) : ∃ v, vs = [v] ∧ Rep K G rho v d := by
  cases h with | cons h t => cases t; exact ⟨_, rfl, h⟩
theorem Reps.two {K : PySem.W.Frag} {G : Hp} {rho : List Addr} {vs : List V} {d d' : D} (h : Reps K G rho vs [d, d']) : ∃ v v', vs = [v, v'] ∧ Rep K G rho v d ∧ Rep K G rho v' d' := by
  cases h with | cons h t => obtain ⟨v', rfl, h'⟩ := t.one; exact ⟨_, _, rfl, h, h'⟩
theorem wk_enum {K : PySem.W.Frag} {W : Wd} {p : Addr} {vs : List V} {xs : List D} (h : W.G p = some (.lst vs)) (r : Reps K W.G W.rho vs xs) : Wk K W (Ite K p) (enumD 0 xs) := by
  have q : ∀ (W2 : Wd) (H : Hp), W.Le W2 → Fz W2 H → SqL K H p vs := fun W2 H l f => .of (f _ _ (l.g _ _ h))
  refine ⟨fun W2 H i d l f e => ?_, fun W2 H i d x H' l f e y => ?_, fun W2 H l f => ⟨vs, q W2 H l f, by rw [r.length, enumD_len]; exact Nat.le_refl _⟩⟩
  · obtain ⟨d', e', _⟩ := enumD_get 0 xs i d e
    obtain ⟨v, hv, _⟩ := r.get e'
    exact ⟨vs, v, q W2 H l f, hv⟩
  · obtain ⟨d', e', rfl⟩ := enumD_get 0 xs i d e
    obtain ⟨v, hv, rv⟩ := r.get e'
    obtain ⟨T, x, rfl, hT, rfl, y⟩ := y
    have e2 := y vs (q W2 _ l f)
    rw [hv] at e2; cases e2
    refine ⟨_, .new hT (.tup (.cons ?_ (.cons (rv.mono l) .nil)))⟩
    rw [Nat.zero_add]
    exact .int _
theorem i_enum {p pos tpos : Pos} {elts : List Expr} {kk : Nat} {ma : M (List D)} (hm : X.mg "enumerate" = none) (ha : EA X C [e] ma) (hg : Gl X "enumerate" := by rfl) (hs : starEach [e] X.env = [(false, eval e X.env)] := by rfl) (hK : X.K = C.K := by rfl) :
    EI X C (.Tuple elts kk tpos) (.Call (.Name "enumerate" p) [e] [] pos) (iEnumM ma) := by
  refine PI.imp (pi_enum hg hm ha hs) fun σ H R ⟨B, W, L, env, S, m0, p⟩ => ?_
  refine ⟨B, W, L, env, S, m0, (Post.bind p).mono fun ds W' env' S' H' le m' q vs r => ?_⟩
  match ds, r, q with
  | [.lst xs], r, q =>
    obtain ⟨v, rfl, rv⟩ := r.one
    obtain ⟨p0, vs, rfl, hp, rs⟩ := rv.lst_inv
    rw [hK]
    exact ⟨p0, vs, rfl, .of (m'.s.ex _ _ hp), q W' H' (Wd.Le.refl W') m' _ (wk_enum hp rs)⟩
theorem i_rev {p pos : Pos} {ma : M (List D)} (hm : X.mg "reversed" = none) (ha : EA X C [e] ma) (hg : Gl X "reversed" := by rfl) (hs : starEach [e] X.env = [(false, eval e X.env)] := by rfl) (hK : X.K = C.K := by rfl) :
    EI X C tg (.Call (.Name "reversed" p) [e] [] pos) (iRevM ma) := by
  refine PI.imp (pi_reversed hg hm ha hs) fun σ H R ⟨B, W, L, env, S, m0, p⟩ => ?_
  refine ⟨B, W, L, env, S, m0, (Post.bind p).mono fun ds W' env' S' H' le m' q vs r => ?_⟩
  match ds, r, q with
  | [.lst xs], r, q =>
    obtain ⟨v, rfl, rv⟩ := r.one
    obtain ⟨p0, vs, rfl, hp, rs⟩ := rv.lst_inv
    rw [hK]
    refine ⟨p0, vs, rfl, .of (m'.s.ex _ _ hp), q W' H' (Wd.Le.refl W') m' _ ?_⟩
    have w := walk_rev (K := C.K) (a := p0) (xs := vs)
    have qq : ∀ (W2 : Wd) (H : Hp), W'.Le W2 → Fz W2 H → SqL C.K H p0 vs := fun W2 H l f => .of (f _ _ (l.g _ _ hp))
    have hl : xs.reverse.length = vs.length := by rw [List.length_reverse, rs.length]
    refine ⟨fun W2 H i d l f e => w.goes i H ?_ (qq W2 H l f), fun W2 H i d x H' l f e y => ?_, fun W2 H l f => by rw [hl]; exact w.stops H (qq W2 H l f)⟩
    · have := (List.getElem?_eq_some_iff.mp e).1
      rw [hl] at this; exact this
    · have hi := (List.getElem?_eq_some_iff.mp e).1
      rw [hl] at hi
      obtain ⟨rfl, hx⟩ := w.yields i H x H' hi (qq W2 _ l f) y
      rw [List.getElem?_reverse (by rw [← rs.length]; exact hi), ← rs.length] at e
      obtain ⟨v, hv, rv2⟩ := rs.get e
      rw [hv] at hx; cases hx
      exact ⟨W2, .same (rv2.mono l)⟩
theorem i_zip {e2 : Expr} {p pos tpos : Pos} {elts : List Expr} {kk : Nat} {ma : M (List D)} (hm : X.mg "zip" = none) (ha : EA X C [e, e2] ma) (hg : Gl X "zip" := by rfl) (hs : starEach [e, e2] X.env = (false, eval e X.env) :: starEach [e2] X.env := by rfl)
    (hs2 : (backTo pos (starEach [e2] X.env)).any (·.1) = false := by rfl) (hK : X.K = C.K := by rfl) :
    EI X C (.Tuple elts kk tpos) (.Call (.Name "zip" p) [e, e2] [] pos) (iZipM ma) := by
  refine PI.imp (pi_zip hg hm ha hs hs2) fun σ H R ⟨B, W, L, env, S, m0, p⟩ => ?_
  refine ⟨B, W, L, env, S, m0, (Post.bind p).mono fun ds W' env' S' H' le m' q vs r => ?_⟩
  match ds, r, q with
  | [.lst xs, .lst ys], r, q =>
    obtain ⟨v, v', rfl, rv, rv'⟩ := r.two
    obtain ⟨p0, vs, rfl, hp, rs⟩ := rv.lst_inv
    obtain ⟨p1, vs', rfl, hp', rs'⟩ := rv'.lst_inv
    rw [hK]
    refine ⟨p0, p1, vs, vs', rfl, .of (m'.s.ex _ _ hp), .of (m'.s.ex _ _ hp'), q W' H' (Wd.Le.refl W') m' _ ?_⟩
    have w := walk_zip (K := C.K) (a := p0) (b := p1) (xs := vs) (ys := vs') (n := min vs.length vs'.length) rfl
    have qq : ∀ (W2 : Wd) (H : Hp), W'.Le W2 → Fz W2 H → SqL C.K H p0 vs ∧ SqL C.K H p1 vs' := fun W2 H l f => ⟨.of (f _ _ (l.g _ _ hp)), .of (f _ _ (l.g _ _ hp'))⟩
    have hl : ((xs.zip ys).map fun p => D.tup [p.1, p.2]).length = min vs.length vs'.length := by rw [List.length_map, List.length_zip, rs.length, rs'.length]
    refine ⟨fun W2 H i d l f e => w.goes i H ?_ (qq W2 H l f), fun W2 H i d x H' l f e y => ?_, fun W2 H l f => by rw [hl]; exact w.stops H (qq W2 H l f)⟩
    · have := (List.getElem?_eq_some_iff.mp e).1
      rw [hl] at this; exact this
    · have hi := (List.getElem?_eq_some_iff.mp e).1
      rw [hl] at hi
      obtain ⟨T, x0, y0, rfl, hT, rfl, hx, hy⟩ := w.yields i H x H' hi (qq W2 _ l f) y
      rw [List.getElem?_map] at e
      cases q3 : (xs.zip ys)[i]? with
      | none => rw [q3] at e; cases e
      | some pr =>
        rw [q3] at e; cases e
        obtain ⟨h1, h2⟩ := List.getElem?_zip_eq_some.mp q3
        obtain ⟨v1, hv1, r1⟩ := rs.get h1
        obtain ⟨v2, hv2, r2⟩ := rs'.get h2
        have hx' : vs[i]? = some x0 := hx
        have hy' : vs'[i]? = some y0 := hy
        rw [hv1] at hx'; cases hx'
        rw [hv2] at hy'; cases hy'
        exact ⟨_, .new hT (.tup (.cons (r1.mono l) (.cons (r2.mono l) .nil)))⟩
end

/-! ### targets -/
abbrev MT := D → List Slot → Option (List Slot)
abbrev MTs := List D → List Slot → Option (List Slot)
def Off (js : List Nat) (σ σ' : St) : Prop := σ'.length = σ.length ∧ ∀ j, j ∉ js → σ'[j]? = σ[j]?
def tgOf (C : Ctx) (m : MT) (js : List Nat) : TG := fun v σ H Q => ∃ B W L env S d env', Sim C.K B W L env S σ H ∧ Rep C.K W.G W.rho v d ∧ m d env = some env' ∧ ∀ σ', Sim C.K B W L env' S σ' H → Off js σ σ' → Q σ' H
def tgsOf (C : Ctx) (m : MTs) (js : List Nat) : TGs := fun v σ H Q => ∃ B W L env S d env', Sim C.K B W L env S σ H ∧ Reps C.K W.G W.rho v d ∧ m d env = some env' ∧ ∀ σ', Sim C.K B W L env' S σ' H → Off js σ σ' → Q σ' H
abbrev EG (X : Cx) (C : Ctx) (tg : Expr) (m : MT) (js : List Nat) : Prop := PG X tg (tgOf C m js)
abbrev EGs (X : Cx) (C : Ctx) (tg : List Expr) (m : MTs) (js : List Nat) : Prop := PGs X tg (tgsOf C m js)
def gNm (i : Nat) : MT := fun d env => if i < env.length then some (env.set i (.val d)) else none
def gsNil : MTs := fun ds env => match ds with
  | [] => some env
  | _ => none
def gsCons (m : MT) (ms : MTs) : MTs := fun ds env => match ds with
  | d :: ds => (m d env).bind (ms ds)
  | [] => none
def gTp (n : Nat) (ms : MTs) : MT := fun d env => match d with
  | .tup ds => if ds.length = n then ms ds env else none
  | _ => none
theorem Off.trans {js ks : List Nat} {σ σ' σ'' : St} (h : Off js σ σ') (k : Off ks σ' σ'') : Off (js ++ ks) σ σ'' := ⟨k.1.trans h.1, fun j hj => (k.2 j fun z => hj (List.mem_append_right _ z)).trans (h.2 j fun z => hj (List.mem_append_left _ z))⟩
section
variable {X : Cx} {C : Ctx} {e : Expr} {es : List Expr} {m : MT} {ms : MTs} {js ks : List Nat} {pos : Pos}
theorem g_name (i : Nat) {x : Str} (hN : X.N.Nodup) (hi : X.N[i]? = some x := by rfl) (hx : Loc X.env.scope x := by first | exact Or.inl rfl | exact Or.inr rfl) (hf : X.fn x = true ∨ X.env.scope.names.lookup x = some .local := by first | exact .inl rfl | exact .inr rfl | assumption) :
    EG X C (.Name x pos) (gNm i) [i] := by
  refine PG.imp (pg_name hN hi hx hf) fun v σ H Q ⟨B, W, L, env, S, d, env', m0, r, e, k⟩ => ?_
  unfold gNm at e
  by_cases hl : i < env.length
  · rw [if_pos hl] at e; cases e
    refine k _ (m0.setVal r hl) ⟨List.length_set .., fun j hj => ?_⟩
    have hj' : i ≠ j := fun z => hj (by simp [z])
    rw [List.getElem?_set_ne hj']
  · rw [if_neg hl] at e; cases e
theorem gs_nil : EGs X C [] gsNil [] := by
  refine PGs.imp pgs_nil fun v σ H Q ⟨B, W, L, env, S, d, env', m0, r, e, k⟩ => ?_
  cases r with
  | nil => cases e; exact ⟨rfl, k _ m0 ⟨rfl, fun _ _ => rfl⟩⟩
  | cons _ _ => cases e
theorem gs_cons (h1 : EG X C e m js) (h2 : EGs X C es ms ks) (hs : (assignEach (e :: es) X.env).map (·.2) = assign e X.env :: (assignEach es X.env).map (·.2) := by rfl) : EGs X C (e :: es) (gsCons m ms) (js ++ ks) := by
  refine PGs.imp (pgs_cons h1 h2 hs) fun v σ H Q ⟨B, W, L, env, S, d, env', m0, r, e, k⟩ => ?_
  cases r with
  | nil => cases e
  | @cons v0 vs0 d0 ds0 r rr =>
    unfold gsCons at e
    have e' : (m d0 env).bind (ms ds0) = some env' := e
    cases q : m d0 env with
    | none => rw [q] at e'; cases e'
    | some env1 =>
      rw [q] at e'
      exact ⟨_, _, rfl, B, W, L, env, S, d0, env1, m0, r, q, fun σ1 m1 o1 => ⟨B, W, L, env1, S, ds0, env', m1, rr, e', fun σ2 m2 o2 => k σ2 m2 (o1.trans o2)⟩⟩
theorem g_tup {n kk : Nat} (hc : X.calm = true) (h : EGs X C es ms js) (hn : (assignEach es X.env).length = n := by rfl) (hst : (assignEach es X.env).findIdx? (·.1) = none := by rfl) (hK : X.K = C.K := by rfl) : EG X C (.Tuple es kk pos) (gTp n ms) js := by
  refine PG.imp (pg_tup hc h hn hst) fun v σ H Q ⟨B, W, L, env, S, d, env', m0, r, e, k⟩ => ?_
  cases d with
  | tup ds =>
    obtain ⟨p, vs, rfl, hp, rs⟩ := Rep.tup_inv r
    have e' : (if ds.length = n then ms ds env else none) = some env' := e
    by_cases hl : ds.length = n
    · rw [if_pos hl] at e'
      rw [hK]
      exact ⟨p, vs, rfl, hp W H (Wd.Le.refl W) m0.s.ex, by rw [rs.length]; exact hl, B, W, L, env, S, ds, env', m0, rs, e', k⟩
    · rw [if_neg hl] at e'; cases e'
  | _ => cases e
end
end Vf
/-! Vf4: statements, loops, comprehensions. -/
namespace Vf
open PySem PySem.Spec PyProof.Rows L2

inductive SRes where
  | next (env : List Slot) (S : List D)
  | ret (d : D) (env : List Slot) (S : List D)
  | retN (d : D) (env : List Slot) (S : List D)
  | brk (env : List Slot) (S : List D)
  | cont (env : List Slot) (S : List D)
  | err (x : Exn) (env : List Slot) (S : List D)
  | stuck
abbrev MS := List Slot → List D → SRes
def PostS (C : Ctx) (B : Bs) (W : Wd) (r : SRes) (N : Ends) : Prop := match r with
  | .next env S => ∀ W' L σ H, W.Le W' → Sim C.K B W' L env S σ H → N.nx σ H
  | .ret d env S => ∀ W' L σ H v, W.Le W' → Sim C.K B W' L env S σ H → Rep C.K W'.G W'.rho v d → N.rt v H
  | .retN d env S => ∀ W' L σ H p, W.Le W' → Sim C.K B W' L env S σ H → Own C.K B W' L env H p d → N.rt (.ref p) H
  | .brk env S => ∀ W' L σ H, W.Le W' → Sim C.K B W' L env S σ H → N.bk σ H
  | .cont env S => ∀ W' L σ H, W.Le W' → Sim C.K B W' L env S σ H → N.ct σ H
  | .err x env S => ∀ W' L σ H cls dd, W.Le W' → Sim C.K B W' L env S σ H → RepX C.K W' cls dd x → C.wish cls dd H
  | .stuck => False
/-- σ may change, but not where the slots are none?: no; the state of a block -/
def tsOf (C : Ctx) (m : MS) : TS := fun N σ H => ∃ B W L env S, Sim C.K B W L env S σ H ∧ PostS C B W (m env S) N
abbrev ES (X : Cx) (C : Ctx) (s : Stmt) (m : MS) : Prop := PS X s (tsOf C m)
abbrev ESs (X : Cx) (C : Ctx) (s : List Stmt) (m : MS) : Prop := PSs X s (tsOf C m)
section
variable {C : Ctx} {B : Bs} {W W' : Wd} {r : SRes} {N N' : Ends}
theorem PostS.le (h : PostS C B W r N) (l : W.Le W') : PostS C B W' r N := by
  cases r with
  | next env S => exact fun W2 L σ H l2 m => h W2 L σ H (l.trans l2) m
  | ret d env S => exact fun W2 L σ H v l2 m => h W2 L σ H v (l.trans l2) m
  | retN d env S => exact fun W2 L σ H v l2 m => h W2 L σ H v (l.trans l2) m
  | brk env S => exact fun W2 L σ H l2 m => h W2 L σ H (l.trans l2) m
  | cont env S => exact fun W2 L σ H l2 m => h W2 L σ H (l.trans l2) m
  | err x env S => exact fun W2 L σ H cls dd l2 m => h W2 L σ H cls dd (l.trans l2) m
  | stuck => exact h
end
/-- a value, then a statement -/
def Res.toS {α : Type} (r : Res α) (k : α → MS) : SRes := match r with
  | .ok a env S => k a env S
  | .err x env S => .err x env S
  | .stuck => .stuck
theorem post_toS {α : Type} {C : Ctx} {B : Bs} {L : Nat → Addr} {σ : St} {W : Wd} {r : Res α} {k : α → MS} {N : Ends} (h : PostS C B W (r.toS k) N) : Post C B L σ W r (fun a W' env S H' => PostS C B W' (k a env S) N) := by
  cases r with
  | ok a env S => exact fun W' H' l m => PostS.le h l
  | err x env S => exact fun W' H' cls dd l m rx => h W' L σ H' cls dd l m rx
  | stuck => exact h
def sNext : MS := fun env S => .next env S
def sSeq (a b : MS) : MS := fun env S => match a env S with
  | .next env S => b env S
  | r => r
def sExpr (m : M D) : MS := fun env S => (m env S).toS fun _ env S => .next env S
def sRet (m : M D) : MS := fun env S => (m env S).toS fun d env S => .ret d env S
/-- handing out one's own object -/
def sRetN (m : M D) : MS := fun env S => (m env S).toS fun d env S => .retN d env S
def sRetL (i : Nat) : MS := fun env S => match env[i]? with
  | some (.loc d) => .retN d (env.set i .none) S
  | _ => .stuck
def sIf (t : M Bool) (a b : MS) : MS := fun env S => (t env S).toS fun c env S => if c = true then a env S else b env S
/-- a slot gets a value; a fresh object of its own -/
def sSet (i : Nat) (m : M D) : MS := fun env S => (m env S).toS fun d env S => if i < env.length then .next (env.set i (.val d)) S else .stuck
def sSetN (i : Nat) (m : M D) : MS := fun env S => (m env S).toS fun d env S => if i < env.length ∧ i ≠ 0 then .next (env.set i (.loc d)) S else .stuck
def sAsg (m : M D) (g : MT) : MS := fun env S => (m env S).toS fun d env S => match g d env with
  | some env => .next env S
  | none => .stuck
section
variable {X : Cx} {C : Ctx} {st : Stmt} {sts rest : List Stmt} {a b : MS} {m : M D} {e : Expr} {pos : Pos} {t : M Bool}
theorem ss_nil : ESs X C [] sNext := PSs.imp pss_nil fun N σ H ⟨B, W, L, env, S, m, p⟩ => p W L σ H (Wd.Le.refl W) m
theorem s_pass : ES X C (.Pass pos) sNext := PS.imp ps_pass fun N σ H ⟨B, W, L, env, S, m, p⟩ => p W L σ H (Wd.Le.refl W) m
theorem s_break : ES X C (.Break pos) (fun env S => .brk env S) := PS.imp ps_break fun N σ H ⟨B, W, L, env, S, m, p⟩ => p W L σ H (Wd.Le.refl W) m
theorem s_continue : ES X C (.Continue pos) (fun env S => .cont env S) := PS.imp ps_continue fun N σ H ⟨B, W, L, env, S, m, p⟩ => p W L σ H (Wd.Le.refl W) m
theorem seq_post {B : Bs} {W : Wd} {env : List Slot} {S : List D} {N : Ends} (p : PostS C B W (sSeq a b env S) N) : PostS C B W (a env S) { N with nx := fun σ H => tsOf C b N σ H } := by
  unfold sSeq at p
  cases q : a env S with
  | next env' S' => rw [q] at p; exact fun W' L σ H l m => ⟨B, W', L, env', S', m, p.le l⟩
  | ret d env' S' => rw [q] at p; exact p
  | retN d env' S' => rw [q] at p; exact p
  | brk env' S' => rw [q] at p; exact p
  | cont env' S' => rw [q] at p; exact p
  | err x env' S' => rw [q] at p; exact p
  | stuck => rw [q] at p; exact p
theorem ss_cons (h1 : ES X C st a) (h2 : ESs X C rest b) : ESs X C (st :: rest) (sSeq a b) :=
  PSs.imp (pss_cons h1 h2) fun N σ H ⟨B, W, L, env, S, m, p⟩ => ⟨B, W, L, env, S, m, seq_post p⟩
theorem ss_one (h1 : ES X C st a) : ESs X C [st] a := pss_one h1
theorem s_expr (he : E X C e m) (hs : swapsWith e none pos.line X.env = pure false := by rfl) : ES X C (.Expr e pos) (sExpr m) :=
  PS.imp (ps_expr he hs) fun N σ H ⟨B, W, L, env, S, m, p⟩ => ⟨B, W, L, env, S, m, (post_toS p).mono fun d W' env' S' H' le m' q v r => q W' L σ H' (Wd.Le.refl W') m'⟩
theorem s_ret (he : E X C e m) : ES X C (.Return (some e) pos) (sRet m) :=
  PS.imp (ps_ret he) fun N σ H ⟨B, W, L, env, S, m, p⟩ => ⟨B, W, L, env, S, m, (post_toS p).mono fun d W' env' S' H' le m' q v r => q W' L σ H' v (Wd.Le.refl W') m' r⟩
theorem s_retN (he : EN X C e m) : ES X C (.Return (some e) pos) (sRetN m) :=
  PS.imp (ps_ret he) fun N σ H ⟨B, W, L, env, S, m, p⟩ => ⟨B, W, L, env, S, m, (post_toS p).mono fun d W' env' S' H' le m' q p0 w => q W' L σ H' p0 (Wd.Le.refl W') m' w⟩
theorem s_retNone : ES X C (.Return none pos) (sRet (mCst .non)) :=
  PS.imp ps_retN fun N σ H ⟨B, W, L, env, S, m, p⟩ => p W L σ H .non (Wd.Le.refl W) m .non
theorem s_retL (i : Nat) {x : Str} {pos' : Pos} (hN : X.N[i]? = some x := by rfl) (hv : Vis X.env.scope x := by first | exact Or.inl rfl | exact Or.inr (Or.inl rfl) | exact Or.inr (Or.inr rfl)) (hd : (x == ("__debug__" : Str)) = false := by decide)
    (hcd : (x == ("__classdict__" : Str)) = false := by decide) : ES X C (.Return (some (.Name x pos')) pos) (sRetL i) := by
  refine PS.imp (ps_ret (pe_var hN hv hd hcd)) fun N σ H ⟨B, W, L, env, S, m, p⟩ => ?_
  unfold sRetL at p
  cases q : env[i]? with
  | none => rw [q] at p; exact p.elim
  | some s =>
    rw [q] at p
    cases s with
    | none => exact p.elim
    | val d => exact p.elim
    | loc d =>
      have hi : i < env.length := (List.getElem?_eq_some_iff.mp q).1
      obtain ⟨e1, c, g, nr, h0⟩ := m.loc i d q
      refine ⟨_, e1, p W L (σ.set i none) H (L i) (Wd.Le.refl W) m.forget ⟨c, g, nr, h0, fun j c' q2 z => ?_⟩⟩
      by_cases h : i = j
      · subst h; rw [List.getElem?_set_self hi] at q2; cases q2
      · rw [List.getElem?_set_ne h] at q2
        exact h (m.inj j i _ _ q2 q z).symm
theorem s_if {c : Expr} {xs ys : List Stmt} (hc : EB X C c t) (ha : ESs X C xs a) (hb : ESs X C ys b) : ES X C (.If c xs ys pos) (sIf t a b) := by
  refine PS.imp (ps_if hc ha hb) fun N σ H ⟨B, W, L, env, S, m, p⟩ => ⟨B, W, L, env, S, m, (post_toS p).mono fun c W' env' S' H' le m' q => ?_⟩
  cases c with
  | true => simp only [if_true] at q ⊢; exact ⟨B, W', L, env', S', m', q⟩
  | false => simp only [Bool.false_eq_true, if_false] at q ⊢; exact ⟨B, W', L, env', S', m', q⟩
theorem s_set (i : Nat) {x : Str} {pos' : Pos} (hN : X.N.Nodup) (he : E X C e m) (hi : X.N[i]? = some x := by rfl) (hx : Loc X.env.scope x := by first | exact Or.inl rfl | exact Or.inr rfl) (hs : swapsWith e (some (.Name x pos')) pos.line X.env = pure false := by rfl)
    (hf : X.fn x = true ∨ X.env.scope.names.lookup x = some .local := by first | exact .inl rfl | exact .inr rfl | assumption) : ES X C (.Assign [.Name x pos'] e pos) (sSet i m) := by
  refine PS.imp (ps_set hN hi hx he hs hf) fun N σ H ⟨B, W, L, env, S, m, p⟩ => ⟨B, W, L, env, S, m, (post_toS p).mono fun d W' env' S' H' le m' q v r => ?_⟩
  by_cases hl : i < env'.length
  · rw [if_pos hl] at q
    exact q W' L _ H' (Wd.Le.refl W') (m'.setVal r hl)
  · rw [if_neg hl] at q; exact q.elim
theorem setN_end {B : Bs} {W : Wd} {L : Nat → Addr} {env : List Slot} {S : List D} {σ : St} {H : Hp} {N : Ends} {i : Nat} {p : Addr} {d : D} (m : Sim C.K B W L env S σ H) (w : Own C.K B W L env H p d)
    (q : PostS C B W (if i < env.length ∧ i ≠ 0 then .next (env.set i (.loc d)) S else .stuck) N) : N.nx (σ.set i (some (.ref p))) H := by
  by_cases hl : i < env.length ∧ i ≠ 0
  · rw [if_pos hl] at q
    exact q W _ _ H (Wd.Le.refl W) (m.setLoc w hl.1 hl.2)
  · rw [if_neg hl] at q; exact q.elim
theorem s_setN (i : Nat) {x : Str} {pos' : Pos} (hN : X.N.Nodup) (he : EN X C e m) (hi : X.N[i]? = some x := by rfl) (hx : Loc X.env.scope x := by first | exact Or.inl rfl | exact Or.inr rfl) (hs : swapsWith e (some (.Name x pos')) pos.line X.env = pure false := by rfl)
    (hf : X.fn x = true ∨ X.env.scope.names.lookup x = some .local := by first | exact .inl rfl | exact .inr rfl | assumption) : ES X C (.Assign [.Name x pos'] e pos) (sSetN i m) :=
  PS.imp (ps_set hN hi hx he hs hf) fun N σ H ⟨B, W, L, env, S, m, p⟩ => ⟨B, W, L, env, S, m, (post_toS p).mono fun d W' env' S' H' le m' q p0 w => setN_end m' w q⟩
theorem s_asg {tg : Expr} {g : MT} {js : List Nat} (he : E X C e m) (hg : EG X C tg g js) (hs : swapsWithSole [tg] e pos.line X.env = pure false := by rfl) (hw : swappedStores [tg] e X.env = pure none := by rfl)
    (h1 : (assignEach [tg] X.env).map (·.2) = [assign tg X.env] := by rfl) : ES X C (.Assign [tg] e pos) (sAsg m g) := by
  refine PS.imp (ps_asg he hg hs hw h1) fun N σ H ⟨B, W, L, env, S, m, p⟩ => ⟨B, W, L, env, S, m, (post_toS p).mono fun d W' env' S' H' le m' q v r => ?_⟩
  cases e2 : g d env' with
  | none => simp only [e2] at q; exact q.elim
  | some env2 => simp only [e2] at q; exact ⟨B, W', L, env', S', d, env2, m', r, e2, fun σ' m2 _ => q W' L σ' H' (Wd.Le.refl W') m2⟩
end

/-! ### for -/
def loopF (g : MT) (body : MS) : List D → MS
  | [], env, S => .next env S
  | d :: ds, env, S => match g d env with
    | none => .stuck
    | some env => match body env S with
      | .next env S => loopF g body ds env S
      | .cont env S => loopF g body ds env S
      | .brk env S => .next env S
      | r => r
def sFor (mi : M (List D)) (g : MT) (body : MS) : MS := fun env S => (mi env S).toS fun ds env S => loopF g body ds env S
section
variable {X : Cx} {C : Ctx} {a b : MS} {pos : Pos} {mi : M (List D)} {g : MT} {js : List Nat}
theorem s_for {tg iter : Expr} {body : List Stmt} (hc : X.calm = true) (hp : PassesOwn (model X.prog X.w) X.A X.env X.xe) (hi : EI X C tg iter mi) (hg : EG X C tg g js) (hb : ESs X C body b)
    (hs : ∀ x, foldedSetIterable iter X.env x = pure x := by intro _; rfl) : ES X C (.For tg iter body [] pos) (sFor mi g b) := by
  refine PS.imp (ps_for hp hc hi hg hb hs) fun N σ H ⟨B, W, L, env, S, m, p⟩ => ⟨B, W, L, env, S, m, (post_toS p).mono fun ds W' env' S' H' le m' q J wk => ?_⟩
  refine ⟨fun i n σ H => n = ds.length - i ∧ i ≤ ds.length ∧ ∃ W2 L2 env2 S2, W'.Le W2 ∧ Sim C.K B W2 L2 env2 S2 σ H ∧ PostS C B W2 (loopF g b (ds.drop i) env2 S2) N, ⟨_, rfl, Nat.zero_le _, W', L, env', S', Wd.Le.refl W', m', q⟩, ?_⟩
  rintro i n σ2 H2 ⟨rfl, hi, W2, L2, env2, S2, l2, m2, p2⟩
  by_cases hlt : i < ds.length
  · have hd : ds.drop i = ds[i] :: ds.drop (i + 1) := List.drop_eq_getElem_cons hlt
    have hx : ds[i]? = some ds[i] := List.getElem?_eq_getElem hlt
    rw [hd] at p2
    refine .inr ⟨wk.go W2 H2 i _ l2 m2.s.ex hx, fun σ H => i + 1 ≤ ds.length ∧ ∃ W2 L2 env2 S2, W'.Le W2 ∧ Sim C.K B W2 L2 env2 S2 σ H ∧ PostS C B W2 (loopF g b (ds.drop (i + 1)) env2 S2) N, fun σ' H' ⟨hl, x⟩ => ⟨ds.length - (i + 1), by omega, rfl, hl, x⟩, fun x H3 y => ?_⟩
    obtain ⟨W3, yy⟩ := wk.yld W2 H2 i _ x H3 l2 m2.s.ex hx y
    obtain ⟨l3, m3, r3⟩ := m2.yield yy
    cases e2 : g ds[i] env2 with
    | none => simp only [loopF, e2] at p2; exact p2.elim
    | some env3 =>
      simp only [loopF, e2] at p2
      refine ⟨B, W3, L2, env2, S2, ds[i], env3, m3, r3, e2, fun σ' m4 _ => ⟨B, W3, L2, env3, S2, m4, ?_⟩⟩
      have p3 := PostS.le p2 l3
      cases e3 : b env3 S2 with
      | next env4 S4 => simp only [e3] at p3; exact fun W4 L4 σ4 H4 l4 m4 => ⟨hlt, W4, L4, env4, S4, (l2.trans l3).trans l4, m4, p3.le l4⟩
      | cont env4 S4 => simp only [e3] at p3; exact fun W4 L4 σ4 H4 l4 m4 => ⟨hlt, W4, L4, env4, S4, (l2.trans l3).trans l4, m4, p3.le l4⟩
      | brk env4 S4 => simp only [e3] at p3; exact p3
      | ret d env4 S4 => simp only [e3] at p3; exact p3
      | retN d env4 S4 => simp only [e3] at p3; exact p3
      | err x env4 S4 => simp only [e3] at p3; exact p3
      | stuck => simp only [e3] at p3; exact p3
  · have e : i = ds.length := by omega
    subst e
    rw [List.drop_length] at p2
    exact .inl ⟨wk.stop W2 H2 l2 m2.s.ex, p2 W2 L2 σ2 H2 (Wd.Le.refl W2) m2⟩
end

/-! ### while -/
def loopW (t : M Bool) (body : MS) : Nat → MS
  | 0, _, _ => .stuck
  | n + 1, env, S => (t env S).toS fun c env S => if c = true then (match body env S with
      | .next env S => loopW t body n env S
      | .cont env S => loopW t body n env S
      | .brk env S => .next env S
      | r => r) else .next env S
def sWhile (n : Nat) (t : M Bool) (body : MS) : MS := loopW t body n
section
variable {X : Cx} {C : Ctx} {b : MS} {t : M Bool} {pos : Pos}
theorem s_while (n : Nat) {c : Expr} {body : List Stmt} (hp : PassesOwn (model X.prog X.w) X.A X.env X.xe) (hc : EB X C c t) (hb : ESs X C body b) : ES X C (.While c body [] pos) (sWhile n t b) := by
  refine PS.imp (ps_while hp hc hb) fun N σ H ⟨B, W, L, env, S, m, p⟩ => ?_
  refine ⟨fun n σ H => ∃ W2 L2 env2 S2, Sim C.K B W2 L2 env2 S2 σ H ∧ PostS C B W2 (loopW t b n env2 S2) N, ⟨n, W, L, env, S, m, p⟩, ?_⟩
  rintro n σ2 H2 ⟨W2, L2, env2, S2, m2, p2⟩
  cases n with
  | zero => exact p2.elim
  | succ n =>
    simp only [loopW] at p2
    refine ⟨B, W2, L2, env2, S2, m2, (post_toS p2).mono fun c W3 env3 S3 H3 l3 m3 q => ?_⟩
    cases c with
    | false => simp only [Bool.false_eq_true, if_false] at q ⊢; exact q W3 L2 σ2 H3 (Wd.Le.refl W3) m3
    | true =>
      simp only [if_true] at q ⊢
      refine ⟨fun σ H => ∃ W2 L2 env2 S2, Sim C.K B W2 L2 env2 S2 σ H ∧ PostS C B W2 (loopW t b n env2 S2) N, fun σ' H' h => ⟨n, Nat.lt_succ_self n, h⟩, ⟨B, W3, L2, env3, S3, m3, ?_⟩⟩
      cases e3 : b env3 S3 with
      | next env4 S4 => rw [e3] at q; exact fun W4 L4 σ4 H4 l4 m4 => ⟨W4, L4, env4, S4, m4, PostS.le q l4⟩
      | cont env4 S4 => rw [e3] at q; exact fun W4 L4 σ4 H4 l4 m4 => ⟨W4, L4, env4, S4, m4, PostS.le q l4⟩
      | brk env4 S4 => rw [e3] at q; exact q
      | ret d env4 S4 => rw [e3] at q; exact q
      | retN d env4 S4 => rw [e3] at q; exact q
      | err x env4 S4 => rw [e3] at q; exact q
      | stuck => rw [e3] at q; exact q
end

/-! ### list comprehensions -/
/-- the block's own slots are forgotten within, and given back behind -/
def wipeE (env : List Slot) : List Nat → List Slot
  | [] => env
  | v :: vs => (wipeE env vs).set v .none
/-- behind: the block's own slots as they were, the others as they are (a local may have been frozen or changed) -/
def backE (old env : List Slot) : List Nat → List Slot
  | [] => env
  | v :: vs => backE old (env.set v (match old[v]? with
    | some s => s
    | none => .none)) vs
def okVs (env : List Slot) (vs : List Nat) : Bool := vs.all fun v => match env[v]? with
  | some (.loc _) => false
  | _ => true
def Res.calm {α : Type} : Res α → Res α
  | .err _ _ _ => .stuck
  | r => r
def lcF (g : MT) (vs : List Nat) (t : M Bool) (e : M D) : List D → List D → M (List D)
  | [], acc, env, S => .ok acc env S
  | d :: ds, acc, env, S => match g d env with
    | none => .stuck
    | some env => (t env S).calm.bind fun c env S => if c = true then (e env S).calm.bind fun x env S => if acc.length < sizeLine then lcF g vs t e ds (acc ++ [x]) (wipeE env vs) S else .stuck
      else lcF g vs t e ds acc (wipeE env vs) S
def nLc (mi : M (List D)) (g : MT) (vs : List Nat) (t : M Bool) (e : M D) : M D := fun env S => (mi env S).bind fun ds env S => if okVs env vs = true then
  (lcF g vs t e ds [] (wipeE env vs) S).bind fun xs env' S => .ok (.lst xs) (backE env env' vs) S else .stuck
def Ctx.quiet (C : Ctx) : Ctx := ⟨C.K, fun _ _ _ => False⟩
section
variable {K : PySem.W.Frag} {B : Bs} {W W' : Wd} {L : Nat → Addr} {env env' : List Slot} {S S' : List D} {σ τ : St} {H H' : Hp}
theorem Sim.wipe (m : Sim K B W L env S σ H) : ∀ vs : List Nat, Sim K B W L (wipeE env vs) S (wipe σ vs) H
  | [] => m
  | _ :: vs => (Sim.wipe m vs).forget
theorem Sim.unset {v : Nat} (m : Sim K B W L env S (τ.set v none) H) {s : Slot} (h : s = .none ∨ ∃ d u, s = .val d ∧ τ[v]? = some (some u) ∧ Rep K W.G W.rho u d) : Sim K B W L (env.set v s) S τ H := by
  have e0 : (τ.set v none).set v (match τ[v]? with | some x => x | none => none) = τ := by
    rw [List.set_set]
    apply List.ext_getElem?
    intro j
    by_cases z : v = j
    · subst z
      by_cases hv : v < τ.length
      · rw [List.getElem?_set_self hv, List.getElem?_eq_getElem hv]
      · rw [List.getElem?_eq_none (by simpa using hv), List.getElem?_eq_none (by simpa using hv)]
    · rw [List.getElem?_set_ne z]
  rcases h with rfl | ⟨d, u, rfl, hu, r⟩
  · have m1 := m.forget (i := v) (x := match τ[v]? with | some x => x | none => none)
    rw [e0] at m1
    exact m1
  · have hv : v < env.length := by
      have h1 := (List.getElem?_eq_some_iff.mp hu).1
      have h2 := m.elen
      rw [List.length_set] at h2
      omega
    have m1 := m.setVal (i := v) r hv
    rw [hu] at e0
    have e0' : (τ.set v none).set v (some u) = τ := e0
    rw [e0'] at m1
    exact m1
theorem wipe_off {vs : List Nat} {σ : St} {j : Nat} : j ∉ vs → (L2.wipe σ vs)[j]? = σ[j]? := by
  induction vs with
  | nil => intro _; rfl
  | cons v vs ih =>
    intro h
    show ((L2.wipe σ vs).set v none)[j]? = _
    rw [List.getElem?_set_ne (fun z => h (by simp [z])), ih fun z => h (List.mem_cons_of_mem _ z)]
theorem wipe_in {vs : List Nat} {σ : St} {j : Nat} : j ∈ vs → (L2.wipe σ vs)[j]? = if j < σ.length then some none else none := by
  induction vs with
  | nil => intro h; cases h
  | cons v vs ih =>
    intro h
    show ((L2.wipe σ vs).set v none)[j]? = _
    by_cases z : v = j
    · subst z
      by_cases hv : v < σ.length
      · rw [if_pos hv, List.getElem?_set_self (by rw [wipe_length]; exact hv)]
      · rw [if_neg hv, List.getElem?_eq_none (by rw [List.length_set, wipe_length]; omega)]
    · rw [List.getElem?_set_ne z]
      exact ih (by rcases List.mem_cons.mp h with q | q; exact absurd q.symm z; exact q)
theorem wipe_eq {vs js : List Nat} {σ σ2 : St} (h : ∀ j ∈ js, j ∈ vs) (o : Off js (L2.wipe σ vs) σ2) : L2.wipe σ2 vs = L2.wipe σ vs := by
  apply List.ext_getElem?
  intro j
  have hl : σ2.length = σ.length := by rw [o.1, wipe_length]
  by_cases hj : j ∈ vs
  · rw [wipe_in hj, wipe_in hj, hl]
  · rw [wipe_off hj, o.2 j fun z => hj (h j z)]
/-- the slots given back -/
theorem Sim.back (m : Sim K B W L env S σ H) (l : W.Le W') : ∀ (vs : List Nat) (env' : List Slot), vs.Nodup → okVs env vs = true → Sim K B W' L env' S' (L2.wipe σ vs) H' → Sim K B W' L (backE env env' vs) S' σ H'
  | [], _, _, _, m' => m'
  | v :: vs, env', nd, ok, m' => by
    obtain ⟨n1, n2⟩ := List.nodup_cons.mp nd
    have ok' : (match env[v]? with | some (.loc _) => false | _ => true) = true ∧ okVs env vs = true := by
      unfold okVs at ok
      rw [List.all_cons, Bool.and_eq_true] at ok
      exact ok
    refine Sim.back m l vs _ n2 ok'.2 (Sim.unset m' ?_)
    cases q : env[v]? with
    | none => exact .inl rfl
    | some s =>
      cases s with
      | none => exact .inl rfl
      | loc d => rw [q] at ok'; cases ok'.1
      | val d =>
        obtain ⟨u, hu, r⟩ := m.val v d q
        exact .inr ⟨d, u, rfl, by rw [wipe_off n1]; exact hu, r.mono l⟩
/-- an object that the state does not know changes -/
theorem Sim.off (m : Sim K B W L env S σ H) {p : Addr} {o : HO} (g : W.G p = none) (nr : p ∉ W.rho) (nl : ∀ (i : Nat) (c : D), env[i]? = some (.loc c) → L i ≠ p) (h0 : B.H0 p = none) : Sim K B W L env S σ (upd H p o) := by
  have keep : ∀ {q : Addr} {d : D}, q ≠ p → CellAt K W H q d → CellAt K W (upd H p o) q d := fun hq c => c.mono (Wd.Le.refl W) (upd_ne hq)
  refine ⟨⟨fun a u e => ?_, m.s.len, m.s.nd, fun n c q e1 e2 => keep (fun z => nr (by rw [← z]; exact List.mem_of_getElem? e2)) (m.s.cell n c q e1 e2), m.s.gc⟩, m.val, fun i d e => ?_, m.inj, m.le, m.new, m.newrho, fun a u e ha => ?_, m.elen, m.pin⟩
  · rw [upd_ne (fun z => by rw [z, g] at e; cases e)]; exact m.s.ex a u e
  · obtain ⟨e1, c, g', nr', h0'⟩ := m.loc i d e
    exact ⟨e1, keep (nl i d e) c, g', nr', h0'⟩
  · rw [upd_ne (fun z => by rw [z, h0] at e; cases e)]; exact m.kept a u e ha
theorem wipeE_loc {vs : List Nat} {i : Nat} {c : D} : (wipeE env vs)[i]? = some (.loc c) → env[i]? = some (.loc c) := by
  induction vs with
  | nil => exact id
  | cons v vs ih =>
    intro h
    have h' : ((wipeE env vs).set v .none)[i]? = some (.loc c) := h
    by_cases z : v = i
    · subst z
      by_cases hv : v < (wipeE env vs).length
      · rw [List.getElem?_set_self hv] at h'; cases h'
      · rw [List.getElem?_eq_none (by simpa using hv)] at h'; cases h'
    · rw [List.getElem?_set_ne z] at h'
      exact ih h'
theorem backE_loc {old : List Slot} {i : Nat} {c : D} : ∀ (vs : List Nat) (env : List Slot), okVs old vs = true → (backE old env vs)[i]? = some (.loc c) → env[i]? = some (.loc c)
  | [], _, _, h => h
  | v :: vs, env, ok, h => by
    have ok' : (match old[v]? with | some (.loc _) => false | _ => true) = true ∧ okVs old vs = true := by
      unfold okVs at ok
      rw [List.all_cons, Bool.and_eq_true] at ok
      exact ok
    have h2 := backE_loc vs _ ok'.2 h
    by_cases z : v = i
    · subst z
      by_cases hv : v < env.length
      · rw [List.getElem?_set_self hv] at h2
        cases q : old[v]? with
        | none => rw [q] at h2; cases h2
        | some s =>
          rw [q] at h2
          have hs : s = .loc c := Option.some.inj h2
          rw [q, hs] at ok'; cases ok'.1
      · rw [List.getElem?_eq_none (by simpa using hv)] at h2; cases h2
    · rw [List.getElem?_set_ne z] at h2; exact h2
end
/-- the tests of a comprehension -/
structure ETs (X : Cx) (C : Ctx) (ifs : List Expr) (t : M Bool) : Prop where
  run : PTs X ifs (ttOf C t)
def bYes : M Bool := fun env S => .ok true env S
theorem PTs.imp {X : Cx} {e : List Expr} {t t' : TT} (h : PTs X e t) (k : ∀ σ H Q, t' σ H Q → t σ H Q) : PTs X e t' := ⟨fun pins s σ H Q I q => h.run pins s σ H Q I (k σ H Q q)⟩
theorem ts_nil {X : Cx} {C : Ctx} : PTs X [] (ttOf C bYes) := PTs.imp pts_nil fun σ H Q ⟨B, W, L, env, S, m, p⟩ => p W H (Wd.Le.refl W) m
theorem ts_one {X : Cx} {C : Ctx} {c : Expr} {t : M Bool} (h : EB X C c t) : PTs X [c] (ttOf C t) := pts_one h
theorem quiet_ok {α : Type} {C : Ctx} {B : Bs} {L : Nat → Addr} {σ : St} {W : Wd} {a : α} {env : List Slot} {S : List D} {P : α → Wd → List Slot → List D → Hp → Prop}
    (h : ∀ W' H', W.Le W' → Sim C.K B W' L env S σ H' → P a W' env S H') : Post C.quiet B L σ W (.ok a env S) P := h
section
variable {X : Cx} {C : Ctx} {mi : M (List D)} {g : MT} {js vs : List Nat} {t : M Bool} {m : M D}
theorem tLc_of {σ : St} {H : Hp} {Q : VK} (hjs : ∀ j ∈ js, j ∈ vs) (nd : vs.Nodup) (h : tnOf C (nLc mi g vs t m) σ H Q) : tLc (tiOf C mi) (tgOf C.quiet g js) (ttOf C.quiet t) (teOf C.quiet m) vs σ H Q := by
  obtain ⟨B, W, L, env, S, m0, p⟩ := h
  refine ⟨B, W, L, env, S, m0, (Post.bind p).mono fun ds W0 env0 S0 H0 le0 m0 q J wk D hD => ?_⟩
  by_cases hok : okVs env0 vs = true
  · rw [if_pos hok] at q
    obtain ⟨f1, f2, f3, f4⟩ := m0.free hD
    obtain ⟨r, hr⟩ : ∃ r, r = lcF g vs t m ds [] (wipeE env0 vs) S0 := ⟨_, rfl⟩
    rw [← hr] at q
    have nost : r ≠ .stuck := fun z => by rw [z] at q; exact q
    have hB0 : B.W0.G D = none ∧ D ∉ B.W0.rho := by
      refine ⟨?_, fun z => f2 (m0.le.r.subset z)⟩
      cases q0 : B.W0.G D with
      | none => rfl
      | some o => rw [m0.le.g D o q0] at f1; cases f1
    refine ⟨fun i n H => n = ds.length - i ∧ i ≤ ds.length ∧ ∃ W1 env1 S1 acc dacc, W0.Le W1 ∧ Sim C.K B W1 L env1 S1 (L2.wipe σ vs) H ∧ H D = some (.lst acc) ∧ Reps C.K W1.G W1.rho acc dacc ∧ W1.G D = none ∧ D ∉ W1.rho ∧ (∀ (i : Nat) (c : Vf.D), env1[i]? = some (.loc c) → L i ≠ D) ∧ lcF g vs t m (ds.drop i) dacc env1 S1 = r, ?_, ?_⟩
    · exact ⟨_, rfl, Nat.zero_le _, W0, wipeE env0 vs, S0, [], [], Wd.Le.refl W0, (m0.wipe vs).garb hD, upd_same, .nil, f1, f2, fun i c e => f4 i c (wipeE_loc e), hr.symm⟩
    · rintro i n H1 ⟨rfl, hi, W1, env1, S1, acc, dacc, l1, m1, hD1, ra, g1, n1, nl1, e1⟩
      by_cases hlt : i < ds.length
      · have hd : ds.drop i = ds[i] :: ds.drop (i + 1) := List.drop_eq_getElem_cons hlt
        have hx : ds[i]? = some ds[i] := List.getElem?_eq_getElem hlt
        rw [hd] at e1
        have mg := m1.ground hD1 g1 n1 nl1
        refine .inr ⟨wk.go W1 H1 i _ l1 m1.s.ex hx, fun H => i + 1 ≤ ds.length ∧ ∃ W1 env1 S1 acc dacc, W0.Le W1 ∧ Sim C.K B W1 L env1 S1 (L2.wipe σ vs) H ∧ H D = some (.lst acc) ∧ Reps C.K W1.G W1.rho acc dacc ∧ W1.G D = none ∧ D ∉ W1.rho ∧ (∀ (i : Nat) (c : Vf.D), env1[i]? = some (.loc c) → L i ≠ D) ∧ lcF g vs t m (ds.drop (i + 1)) dacc env1 S1 = r, fun H' ⟨hl, x⟩ => ⟨ds.length - (i + 1), by omega, rfl, hl, x⟩, fun x H2 y => ?_⟩
        obtain ⟨W2, yy⟩ := wk.yld W1 H1 i _ x H2 l1 m1.s.ex hx y
        obtain ⟨l2, m2, r2⟩ := mg.yield yy
        have ra2 := ra.mono l2
        cases e2 : g ds[i] env1 with
        | none => simp only [lcF, e2] at e1; exact absurd e1.symm nost
        | some env2 =>
          simp only [lcF, e2] at e1
          refine ⟨_, W2, L, env1, S1, ds[i], env2, m2, r2, e2, fun σ2 m3 off => ⟨wipe_eq hjs off, ?_⟩⟩
          have ew := wipe_eq hjs off
          cases e3 : t env2 S1 with
          | stuck => rw [e3] at e1; exact absurd e1.symm nost
          | err x env3 S3 => rw [e3] at e1; exact absurd e1.symm nost
          | ok c env3 S3 =>
            rw [e3] at e1
            have e1 : (if c = true then (m env3 S3).calm.bind fun x env S => if dacc.length < sizeLine then lcF g vs t m (ds.drop (i + 1)) (dacc ++ [x]) (wipeE env vs) S else .stuck
              else lcF g vs t m (ds.drop (i + 1)) dacc (wipeE env3 vs) S3) = r := e1
            refine ⟨_, W2, L, env2, S1, m3, ?_⟩
            rw [e3]
            refine quiet_ok fun W3 H3 l3 m4 => ?_
            cases c with
            | false =>
              simp only [Bool.false_eq_true, if_false] at e1 ⊢
              obtain ⟨m5, hD5, g5, n5, nl5⟩ := m4.unground f3 hB0.2 hB0.1
              have m6 := m5.wipe vs
              rw [ew] at m6
              exact ⟨hlt, W3, wipeE env3 vs, S3, acc, dacc, (l1.trans l2).trans l3, m6, hD5, ra2.mono l3, g5, n5, fun i c e => nl5 i c (wipeE_loc e), e1⟩
            | true =>
              simp only [if_true] at e1 ⊢
              cases e4 : m env3 S3 with
              | stuck => rw [e4] at e1; exact absurd e1.symm nost
              | err x env4 S4 => rw [e4] at e1; exact absurd e1.symm nost
              | ok dx env4 S4 =>
                rw [e4] at e1
                have e1 : (if dacc.length < sizeLine then lcF g vs t m (ds.drop (i + 1)) (dacc ++ [dx]) (wipeE env4 vs) S4 else .stuck) = r := e1
                by_cases hz : dacc.length < sizeLine
                · rw [if_pos hz] at e1
                  refine ⟨_, W3, L, env3, S3, m4, ?_⟩
                  rw [e4]
                  refine quiet_ok fun W4 H4 l4 m5 v rv => ?_
                  obtain ⟨m6, hD6, g6, n6, nl6⟩ := m5.unground f3 hB0.2 hB0.1
                  have m7 := m6.wipe vs
                  rw [ew] at m7
                  have nl7 : ∀ (i : Nat) (c : Vf.D), (wipeE env4 vs)[i]? = some (.loc c) → L i ≠ D := fun i c e => nl6 i c (wipeE_loc e)
                  exact ⟨acc, hD6, by rw [ra.length]; exact hz, hlt, W4, wipeE env4 vs, S4, acc ++ [v], dacc ++ [dx], ((l1.trans l2).trans l3).trans l4, m7.off g6 n6 nl7 f3, upd_same, ((ra2.mono l3).mono l4).append (.cons rv .nil), g6, n6, nl7, e1⟩
                · rw [if_neg hz] at e1; exact absurd e1.symm nost
      · have e : i = ds.length := by omega
        subst e
        rw [List.drop_length] at e1
        refine .inl ⟨wk.stop W1 H1 l1 m1.s.ex, ?_⟩
        rw [← e1] at q
        exact q W1 H1 l1 (m0.back l1 vs env1 nd hok m1) D ⟨⟨_, hD1, .lst ra⟩, g1, n1, f3, fun i c e => nl1 i c (backE_loc vs env1 hok e)⟩
  · rw [if_neg hok] at q; exact q.elim
theorem n_lc {elt tg iter : Expr} {ifs : List Expr} {scope : Scope} {pos : Pos} (hc : X.calm = true) (hN : X.N.Nodup) (own : List (Str × Nat)) (ok : blkC X.N X.env.scope scope own = true) (hi : EI X C tg iter mi)
    (hg : ∀ (s : Shared) (H : Hp) (c : Addr) (cl : List (Str × Addr)) (fp : List Addr), EG (X.blk s H scope (compEnvC scope cl c X.env) fp) C.quiet tg g js) (ht : ∀ (s : Shared) (H : Hp) (c : Addr) (cl : List (Str × Addr)) (fp : List Addr), PTs (X.blk s H scope (compEnvC scope cl c X.env) fp) ifs (ttOf C.quiet t))
    (he : ∀ (s : Shared) (H : Hp) (c : Addr) (cl : List (Str × Addr)) (fp : List Addr), E (X.blk s H scope (compEnvC scope cl c X.env) fp) C.quiet elt m) (hjs : ∀ j ∈ js, j ∈ own.map (·.2) := by decide) (nd : (own.map (·.2)).Nodup := by decide)
    (hs : ∀ x, foldedSetIterable iter X.env x = pure x := by intro _; rfl) : EN X C (.ListComp elt [⟨tg, iter, ifs, 0⟩] scope pos) (nLc mi g (own.map (·.2)) t m) :=
  PE.imp (pe_lc hc hN hi (blkOk_by ok) hg ht he hs) fun σ H Q h => tLc_of hjs nd h
/-- name = [..] on one line -/
theorem s_setLcN {elt tg iter : Expr} {ifs : List Expr} {scope : Scope} {pos spos py : Pos} {y : Str} (i : Nat) (hc : X.calm = true) (hN : X.N.Nodup) (own : List (Str × Nat)) (ok : blkC X.N X.env.scope scope own = true)
    (hsw : swapsWith (.ListComp elt [⟨tg, iter, ifs, 0⟩] scope pos) (some (.Name y py)) spos.line X.env = pure true) (hi : EI X C tg iter mi)
    (hg : ∀ (s : Shared) (H : Hp) (c : Addr) (cl : List (Str × Addr)) (fp : List Addr), EG (X.blk s H scope (compEnvC scope cl c X.env) fp) C.quiet tg g js) (ht : ∀ (s : Shared) (H : Hp) (c : Addr) (cl : List (Str × Addr)) (fp : List Addr), PTs (X.blk s H scope (compEnvC scope cl c X.env) fp) ifs (ttOf C.quiet t))
    (he : ∀ (s : Shared) (H : Hp) (c : Addr) (cl : List (Str × Addr)) (fp : List Addr), E (X.blk s H scope (compEnvC scope cl c X.env) fp) C.quiet elt m) (hjs : ∀ j ∈ js, j ∈ own.map (·.2) := by decide) (nd : (own.map (·.2)).Nodup := by decide)
    (hy : X.N[i]? = some y := by rfl) (hyl : X.env.scope.names.lookup y = some .local := by rfl) (hs : ∀ x, foldedSetIterable iter X.env x = pure x := by intro _; rfl) :
    ES X C (.Assign [.Name y py] (.ListComp elt [⟨tg, iter, ifs, 0⟩] scope pos) spos) (sSetN i (nLc mi g (own.map (·.2)) t m)) := by
  refine PS.imp (ps_setLc hc hN hy hyl hsw hi (blkOk_by ok) hg ht he hs) fun N σ H ⟨B, W, L, env, S, m0, p⟩ => ?_
  refine tLc_of hjs nd ⟨B, W, L, env, S, m0, (post_toS p).mono fun d W' env' S' H' le m' q p0 w => setN_end m' w q⟩
/-- the same, frozen at once -/
theorem s_setLc {elt tg iter : Expr} {ifs : List Expr} {scope : Scope} {pos spos py : Pos} {y : Str} (i : Nat) (hc : X.calm = true) (hN : X.N.Nodup) (own : List (Str × Nat)) (ok : blkC X.N X.env.scope scope own = true)
    (hsw : swapsWith (.ListComp elt [⟨tg, iter, ifs, 0⟩] scope pos) (some (.Name y py)) spos.line X.env = pure true) (hi : EI X C tg iter mi)
    (hg : ∀ (s : Shared) (H : Hp) (c : Addr) (cl : List (Str × Addr)) (fp : List Addr), EG (X.blk s H scope (compEnvC scope cl c X.env) fp) C.quiet tg g js) (ht : ∀ (s : Shared) (H : Hp) (c : Addr) (cl : List (Str × Addr)) (fp : List Addr), PTs (X.blk s H scope (compEnvC scope cl c X.env) fp) ifs (ttOf C.quiet t))
    (he : ∀ (s : Shared) (H : Hp) (c : Addr) (cl : List (Str × Addr)) (fp : List Addr), E (X.blk s H scope (compEnvC scope cl c X.env) fp) C.quiet elt m) (hjs : ∀ j ∈ js, j ∈ own.map (·.2) := by decide) (nd : (own.map (·.2)).Nodup := by decide)
    (hy : X.N[i]? = some y := by rfl) (hyl : X.env.scope.names.lookup y = some .local := by rfl) (hs : ∀ x, foldedSetIterable iter X.env x = pure x := by intro _; rfl) :
    ES X C (.Assign [.Name y py] (.ListComp elt [⟨tg, iter, ifs, 0⟩] scope pos) spos) (sSet i (nLc mi g (own.map (·.2)) t m)) := by
  refine PS.imp (ps_setLc hc hN hy hyl hsw hi (blkOk_by ok) hg ht he hs) fun N σ H ⟨B, W, L, env, S, m0, p⟩ => ?_
  refine tLc_of hjs nd ⟨B, W, L, env, S, m0, (post_toS p).mono2 fun d W' env' S' H' le m' q p0 w => ?_⟩
  obtain ⟨W2, l2, m2, r⟩ := m'.frzOwn w
  have q2 := q W2 H' l2 m2
  by_cases hl : i < env'.length
  · rw [if_pos hl] at q2
    exact q2 W2 L _ H' (Wd.Le.refl W2) (m2.setVal r hl)
  · rw [if_neg hl] at q2; exact q2.elim
end
end Vf
/-! Vf5: what a def promises; calls, methods, properties, instances made; locals changed. -/
namespace Vf
open PySem PySem.Spec PyProof.Rows L2

inductive CRes where
  | ok (d : D) (S : List D) | new (d : D) (S : List D) | err (x : Exn) (S : List D) | stuck
abbrev Fn := List D → List D → CRes
/-- what a call leaves -/
structure Aft (W : Wd) (H : Hp) (W' : Wd) (H' : Hp) : Prop where
  le : W.Le W'
  new : ∀ a o, W'.G a = some o → W.G a = some o ∨ H a = none
  newrho : ∀ (n : Nat) (p : Addr), W.rho.length ≤ n → W'.rho[n]? = some p → H p = none
  kept : ∀ a o, H a = some o → a ∉ W.rho → H' a = some o
def PostC (K : PySem.W.Frag) (W : Wd) (H : Hp) (r : CRes) (Q : VK) (E : XK) : Prop := match r with
  | .ok d S => ∀ W' H' v, Aft W H W' H' → SimS K W' S H' → Rep K W'.G W'.rho v d → Q v H'
  | .new d S => ∀ W' H' p, Aft W H W' H' → SimS K W' S H' → CellAt K W' H' p d → W'.G p = none → p ∉ W'.rho → H p = none → Q (.ref p) H'
  | .err x S => ∀ W' H' cls dd, Aft W H W' H' → SimS K W' S H' → RepX K W' cls dd x → E cls dd H'
  | .stuck => False
def spOf (K : PySem.W.Frag) (n : Nat) (F : Fn) : Sp := fun vs H Q E => vs.length = n ∧ ∃ W ds S, SimS K W S H ∧ Reps K W.G W.rho vs ds ∧ PostC K W H (F ds S) Q E
section
variable {K : PySem.W.Frag} {B : Bs} {W W' : Wd} {L : Nat → Addr} {env : List Slot} {S S' : List D} {σ : St} {H H' : Hp}
theorem Sim.aft (m : Sim K B W L env S σ H) (a : Aft W H W' H') (s' : SimS K W' S' H') : Sim K B W' L env S' σ H' := by
  refine ⟨s', fun i d e => ?_, fun i d e => ?_, m.inj, m.le.trans a.le, fun b o e => ?_, fun n p hn e => ?_, fun b o e hb => a.kept b o (m.kept b o e hb) fun z => ?_, m.elen, m.pin⟩
  · obtain ⟨v, e1, r⟩ := m.val i d e
    exact ⟨v, e1, r.mono a.le⟩
  · obtain ⟨e1, ⟨o, ho, r⟩, g, nr, h0⟩ := m.loc i d e
    refine ⟨e1, ⟨o, a.kept _ o ho nr, RepO.mono a.le r⟩, ?_, fun z => ?_, h0⟩
    · cases q : W'.G (L i) with
      | none => rfl
      | some u =>
        rcases a.new _ u q with h | h
        · rw [g] at h; cases h
        · rw [ho] at h; cases h
    · obtain ⟨n, hn⟩ := List.mem_iff_getElem?.mp z
      by_cases hl : W.rho.length ≤ n
      · have h := a.newrho n _ hl hn
        rw [ho] at h; cases h
      · have hl' : n < W.rho.length := by omega
        have h2 := pre_get a.le.r (List.getElem?_eq_getElem hl')
        rw [hn] at h2
        exact nr (by rw [Option.some.inj h2]; exact List.getElem_mem hl')
  · rcases a.new b o e with h | h
    · exact m.new b o h
    · exact .inr (m.free h).2.2.1
  · by_cases hl : W.rho.length ≤ n
    · exact (m.free (a.newrho n p hl e)).2.2.1
    · have hl' : n < W.rho.length := by omega
      have h2 := pre_get a.le.r (List.getElem?_eq_getElem hl')
      rw [e] at h2
      exact m.newrho n p hn (by rw [List.getElem?_eq_getElem hl', Option.some.inj h2])
  · obtain ⟨n, hn⟩ := List.mem_iff_getElem?.mp z
    by_cases hl : B.W0.rho.length ≤ n
    · have h := m.newrho n b hl hn
      rw [e] at h; cases h
    · have hl' : n < B.W0.rho.length := by omega
      have h2 := pre_get m.le.r (List.getElem?_eq_getElem hl')
      rw [hn] at h2
      exact hb (by rw [Option.some.inj h2]; exact List.getElem_mem hl')
theorem Sim.toAft (m : Sim K ⟨H, W, none⟩ W' L env S σ H') : Aft W H W' H' := ⟨m.le, m.new, m.newrho, m.kept⟩
theorem Sim.ownNew (m : Sim K B W L env S σ H) (a : Aft W H W' H') {p : Addr} {d : D} (s' : SimS K W' S' H') (c : CellAt K W' H' p d) (g : W'.G p = none) (nr : p ∉ W'.rho) (h : H p = none) : Own K B W' L env H' p d :=
  ⟨c, g, nr, (m.free h).2.2.1, (m.free h).2.2.2⟩
end

/-! ### a def keeps its promise -/
def env0 (n : Nat) (ds : List D) : List Slot := ds.map .val ++ List.replicate (n - ds.length) .none
def fnOf (n : Nat) (ms : MS) : Fn := fun ds S => match ms (env0 n ds) S with
  | .ret d _ S => .ok d S
  | .retN d _ S => .new d S
  | .next _ S => .ok .non S
  | .err x _ S => .err x S
  | _ => .stuck
section
variable {P : Program} {w : World} {K : PySem.W.Frag} {mg : Str → Option Value} {base : Heap}
theorem sim_start {W : Wd} {S : List D} {H : Hp} {N : List Str} {vs : List V} {ds : List D} (s : SimS K W S H) (r : Reps K W.G W.rho vs ds) (hl : vs.length ≤ N.length) : Sim K ⟨H, W, none⟩ W (fun _ => 0) (env0 N.length ds) S (L2.start N vs) H := by
  have hlen := r.length
  have noloc : ∀ (i : Nat) (d : D), (env0 N.length ds)[i]? ≠ some (.loc d) := fun i d e => by
    unfold env0 at e
    by_cases hi : i < (ds.map Slot.val).length
    · rw [List.getElem?_append_left hi, List.getElem?_map] at e
      cases q : ds[i]? with
      | none => rw [q] at e; cases e
      | some x => rw [q] at e; cases e
    · rw [List.getElem?_append_right (by omega), List.getElem?_replicate] at e
      split at e <;> cases e
  refine ⟨s, fun i d e => ?_, fun i d e => absurd e (noloc i d), fun i j c c' e => absurd e (noloc i c), Wd.Le.refl W, fun a o e => .inl e, fun n p hn e => ?_, fun a o e _ => e, ?_, fun p e => by cases e⟩
  · unfold env0 at e
    by_cases hi : i < (ds.map Slot.val).length
    · rw [List.getElem?_append_left hi, List.getElem?_map] at e
      cases q : ds[i]? with
      | none => rw [q] at e; cases e
      | some x =>
        rw [q] at e; cases e
        obtain ⟨v, hv, rv⟩ := r.get q
        refine ⟨v, ?_, rv⟩
        unfold L2.start
        have hi' : i < (vs.map some).length := by rw [List.length_map] at hi ⊢; omega
        rw [List.getElem?_append_left hi', List.getElem?_map, hv]
        rfl
    · rw [List.getElem?_append_right (by omega), List.getElem?_replicate] at e
      split at e <;> cases e
  · rw [List.getElem?_eq_none hn] at e; cases e
  · unfold env0 L2.start
    rw [List.length_append, List.length_append, List.length_map, List.length_map, List.length_replicate, List.length_replicate, hlen]
/-- the body's context -/
structure Oks (X : Cx) (C : Ctx) (k : Nat) : Prop extends Okc X C k where
  po : PassesOwn (model X.prog X.w) X.A X.env X.xe
  stk : X.stack = X.env :: X.outer
  frm : X.env.frame = some X.env.locals
theorem fn_ok {x qual : Str} {params : Arguments} {body : List Stmt} {scope : Scope} {dvs : List V} {kws : List (Str × V)} {f : Addr} {fd : FuncData} {N ps : List Str} {k : Nat} {ms : MS} (F : FunD K x qual params body scope dvs kws f fd) (Sc : FnScope N ps scope)
    (hb : ∀ (X : Cx) (C : Ctx), X.prog = P → X.w = w → X.mg = mg → X.base = base → X.K = K → C.K = K → X.N = N → X.env.scope = scope → X.fn = (fun _ => true) → Oks X C k → ESs X C body ms) :
    FnOk P w K mg base (L2N.CX P w) (k + 1) f fd ps (spOf K ps.length (fnOf N.length ms)) := by
  refine F.ok Sc (fun vs H Q E h => h.1) fun cdv A outer s H vs Q E hr ⟨hl, W, ds, S, m, r, p⟩ => ?_
  have hpl : ps.length ≤ N.length := by have := congrArg List.length Sc.pre; rw [List.length_take] at this; omega
  refine ⟨_, hb (cxOf (L2N.CX P w) P w K mg base N qual scope f cdv A outer s H E) ⟨K, E⟩ rfl rfl rfl rfl rfl rfl rfl rfl rfl ⟨⟨rfl, Sc.nd, hr, L2N.takes_of rfl rfl rfl rfl, rfl⟩, passes_of rfl, rfl, rfl⟩, ⟨H, W, none⟩, W, fun _ => 0, env0 N.length ds, S, sim_start m r (by omega), ?_⟩
  unfold fnOf at p
  cases q : ms (env0 N.length ds) S with
  | next env S' => rw [q] at p; exact fun W' L σ' H' l m' => p W' H' .non m'.toAft m'.s .non
  | ret d env S' => rw [q] at p; exact fun W' L σ' H' v l m' rv => p W' H' v m'.toAft m'.s rv
  | retN d env S' => rw [q] at p; exact fun W' L σ' H' p0 l m' w => p W' H' p0 m'.toAft m'.s w.at_ w.g w.nr w.h0
  | brk env S' => rw [q] at p; exact p.elim
  | cont env S' => rw [q] at p; exact p.elim
  | err x env S' => rw [q] at p; exact fun W' L σ' H' cls dd l m' rx => p W' H' cls dd m'.toAft m'.s rx
  | stuck => rw [q] at p; exact p.elim
end

/-! ### calls -/
/-- the module's name x, called with n positional values -/
def GFn (P : Program) (w : World) (K : PySem.W.Frag) (mg : Str → Option Value) (base : Heap) (x : Str) (n k : Nat) (F : Fn) : Prop :=
  ∃ (f : Addr) (fd : FuncData) (ps : List Str) (sp : Sp) (ds : List Value) (dvs : List V), mg x = some (.ref f) ∧ PySem.W.keepIn K (.ref f) = true ∧ Binds K fd ps ds ∧ Vals dvs ds ∧ FnOk P w K mg base (L2N.CX P w) k f fd ps sp ∧
    ∀ vs H Q E, spOf K n F vs H Q E → sp (vs ++ dvs) H Q E
def CRes.toR (env : List Slot) : CRes → Res D
  | .ok d S => .ok d env S
  | .new d S => .ok d env S
  | .err x S => .err x env S
  | .stuck => .stuck
def CRes.toN (env : List Slot) : CRes → Res D
  | .new d S => .ok d env S
  | .err x S => .err x env S
  | _ => .stuck
def mCall (n : Nat) (F : Fn) (m : M (List D)) : M D := fun env S => (m env S).bind fun ds env S => if ds.length = n then (F ds S).toR env else .stuck
def nCall (n : Nat) (F : Fn) (m : M (List D)) : M D := fun env S => (m env S).bind fun ds env S => if ds.length = n then (F ds S).toN env else .stuck
section
variable {X : Cx} {C : Ctx} {k j n : Nat} {F : Fn} {x : Str} {p pos : Pos} {e : Expr} {es : List Expr} {ma : M (List D)}
theorem Okc.passes (ok : Okc X C k) : Passes (L2N.CX X.prog X.w) X C.wish := L2N.passes_call ok.tk fun _ _ _ _ h => h
theorem spOf_R {K : PySem.W.Frag} {C : Ctx} {B : Bs} {L : Nat → Addr} {σ : St} {W : Wd} {env : List Slot} {S : List D} {H : Hp} {Q : VK} {vs : List V} {ds : List D} (hK : C.K = K) (m : Sim C.K B W L env S σ H) (r : Reps C.K W.G W.rho vs ds)
    (p : Post C B L σ W (if ds.length = n then (F ds S).toR env else .stuck) (fun d W' _ _ H' => ∀ v, Rep C.K W'.G W'.rho v d → Q v H')) : spOf K n F vs H Q C.wish := by
  subst hK
  by_cases hn : ds.length = n
  · rw [if_pos hn] at p
    refine ⟨by rw [r.length]; exact hn, W, ds, S, m.s, r, ?_⟩
    cases q : F ds S with
    | ok d S' => rw [q] at p; exact fun W' H' v a s' rv => p W' H' a.le (m.aft a s') v rv
    | new d S' =>
      rw [q] at p
      intro W' H' p0 a s' c g nr h
      obtain ⟨W2, l2, m2, r2⟩ := (m.aft a s').frzOwn (m.ownNew a s' c g nr h)
      exact p W2 H' (a.le.trans l2) m2 _ r2
    | err y S' => rw [q] at p; exact fun W' H' cls dd a s' rx => p W' H' cls dd a.le (m.aft a s') rx
    | stuck => rw [q] at p; exact p
  · rw [if_neg hn] at p; exact p.elim
theorem spOf_N {K : PySem.W.Frag} {C : Ctx} {B : Bs} {L : Nat → Addr} {σ : St} {W : Wd} {env : List Slot} {S : List D} {H : Hp} {Q : VK} {vs : List V} {ds : List D} (hK : C.K = K) (m : Sim C.K B W L env S σ H) (r : Reps C.K W.G W.rho vs ds)
    (p : Post C B L σ W (if ds.length = n then (F ds S).toN env else .stuck) (fun d W' env' _ H' => ∀ p, Own C.K B W' L env' H' p d → Q (.ref p) H')) : spOf K n F vs H Q C.wish := by
  subst hK
  by_cases hn : ds.length = n
  · rw [if_pos hn] at p
    refine ⟨by rw [r.length]; exact hn, W, ds, S, m.s, r, ?_⟩
    cases q : F ds S with
    | ok d S' => rw [q] at p; exact p.elim
    | new d S' =>
      rw [q] at p
      exact fun W' H' p0 a s' c g nr h => p W' H' a.le (m.aft a s') p0 (m.ownNew a s' c g nr h)
    | err y S' => rw [q] at p; exact fun W' H' cls dd a s' rx => p W' H' cls dd a.le (m.aft a s') rx
    | stuck => rw [q] at p; exact p
  · rw [if_neg hn] at p; exact p.elim
theorem e_call (G : GFn X.prog X.w X.K X.mg X.base x n j F) (ok : Okc X C k) (hj : j ≤ k) (ha : EA X C (e :: es) ma) (hg : Gl X x := by rfl) (hdb : (x == ("__debug__" : Str)) = false := by decide)
    (he : starEach (e :: es) X.env = (false, eval e X.env) :: starEach es X.env := by rfl) (hpl : (backTo pos (starEach es X.env)).any (·.1) = false := by rfl) : E X C (.Call (.Name x p) (e :: es) [] pos) (mCall n F ma) := by
  obtain ⟨f, fd, ps, sp, ds, dvs, hm, hk, hb, hd, hF, hs⟩ := G
  refine PE.imp (pe_call hF (ok.room.mono hj) hg hm hk hb hd ok.passes ha hdb he hpl) fun σ H Q ⟨B, W, L, env, S, m, q⟩ => ?_
  exact ⟨B, W, L, env, S, m, (Post.bind q).mono fun ds W' env' S' H' le m' q v r => hs _ _ _ _ (spOf_R ok.hK.symm m' r q)⟩
theorem n_call (G : GFn X.prog X.w X.K X.mg X.base x n j F) (ok : Okc X C k) (hj : j ≤ k) (ha : EA X C (e :: es) ma) (hg : Gl X x := by rfl) (hdb : (x == ("__debug__" : Str)) = false := by decide)
    (he : starEach (e :: es) X.env = (false, eval e X.env) :: starEach es X.env := by rfl) (hpl : (backTo pos (starEach es X.env)).any (·.1) = false := by rfl) : EN X C (.Call (.Name x p) (e :: es) [] pos) (nCall n F ma) := by
  obtain ⟨f, fd, ps, sp, ds, dvs, hm, hk, hb, hd, hF, hs⟩ := G
  refine PE.imp (pe_call hF (ok.room.mono hj) hg hm hk hb hd ok.passes ha hdb he hpl) fun σ H Q ⟨B, W, L, env, S, m, q⟩ => ?_
  exact ⟨B, W, L, env, S, m, (Post.bind q).mono fun ds W' env' S' H' le m' q v r => hs _ _ _ _ (spOf_N ok.hK.symm m' r q)⟩
end

/-! ### methods, properties, fields -/
/-- the method m of the class c, called with n values, self among them -/
def GMt (P : Program) (w : World) (K : PySem.W.Frag) (mg : Str → Option Value) (base : Heap) (c m : Str) (n k : Nat) (F : Fn) : Prop :=
  ∃ (f : Addr) (fd : FuncData) (ps : List Str) (sp : Sp) (ds : List Value) (dvs : List V), Cls K (He.ga K c) ∧ Meth K (He.ga K c) m f ∧ Binds K fd ps ds ∧ Vals dvs ds ∧ FnOk P w K mg base (L2N.CX P w) k f fd ps sp ∧
    ∀ vs H Q E, spOf K n F vs H Q E → sp (vs ++ dvs) H Q E
def insOf (c m : Str) : D → Bool
  | .ins c' ns _ => decide (c' = c) && decide (m ∉ ns)
  | _ => false
/-- o.m(..): the object, then the values; then the method -/
def mMeth (c m : Str) (n : Nat) (F : Fn) (mo : M D) (ma : M (List D)) : M D := fun env S => (mo env S).bind fun o env S => if insOf c m o = true then (ma env S).bind fun ds env S => if (o :: ds).length = n then (F (o :: ds) S).toR env else .stuck else .stuck
section
variable {X : Cx} {C : Ctx} {k j n : Nat} {F : Fn} {c m : Str} {p pos apos : Pos} {e o : Expr} {es : List Expr} {ma : M (List D)} {mo : M D}
theorem zip_lookup_none {ns : List Str} {vs : List V} {f : Str} (h : f ∉ ns) : (ns.zip vs).lookup f = none := by
  induction ns generalizing vs with
  | nil => rfl
  | cons n ns ih =>
    cases vs with
    | nil => rfl
    | cons v vs =>
      have h1 : (f == n) = false := by
        rw [beq_eq_false_iff_ne]
        exact fun z => h (by rw [z]; exact List.mem_cons_self)
      show List.lookup f ((n, v) :: ns.zip vs) = none
      rw [List.lookup_cons, h1]
      exact ih fun z => h (List.mem_cons_of_mem _ z)
theorem e_meth {pl : Sem Bool} (G : GMt X.prog X.w X.K X.mg X.base c m n j F) (ok : Okc X C k) (hj : j ≤ k) (ho : E X C o mo) (ha : EA X C (e :: es) ma)
    (hst : starEach (e :: es) X.env = (false, eval e X.env) :: starEach es X.env := by rfl) (hpl : (backTo pos (starEach es X.env)).any (·.1) = false := by rfl)
    (ht : eval (.Call (.Attribute o m apos) (e :: es) [] pos) X.env = (do
      let ov ← eval o X.env
      standAt apos.atName
      let (f, first) ← holding [ov] (getMethod ov m pl)
      callWith pos f first (backTo pos (starEach (e :: es) X.env)) (backToKw pos (keywordEach [] X.env))) := by rfl) :
    E X C (.Call (.Attribute o m apos) (e :: es) [] pos) (mMeth c m n F mo ma) := by
  obtain ⟨f, fd, ps, sp, ds, dvs, hc, hm, hb, hd, hF, hs⟩ := G
  refine PE.imp (pe_meth (pl := pl) ho hc hm hF (ok.room.mono hj) hb hd ok.passes ha hst hpl ht) fun σ H Q ⟨B, W, L, env, S, m0, q0⟩ => ?_
  refine ⟨B, W, L, env, S, m0, (Post.bind q0).mono fun d W' env' S' H' le m' q v r => ?_⟩
  cases d with
  | ins c' ns xs =>
    by_cases hi : insOf c m (.ins c' ns xs) = true
    · rw [if_pos hi] at q
      have hi' : (decide (c' = c) && decide (m ∉ ns)) = true := hi
      rw [Bool.and_eq_true, decide_eq_true_eq, decide_eq_true_eq] at hi'
      obtain ⟨rfl, hns⟩ := hi'
      obtain ⟨p0, dx, vs, rfl, hp, hl, rs⟩ := RepH.ins_inv m'.s.ex (.inl r)
      refine ⟨p0, dx, _, rfl, by rw [ok.hK]; exact hp, zip_lookup_none hns, B, W', L, env', S', m', (Post.bind q).mono fun ds W2 env2 S2 H2 l2 m2 q2 vs2 r2 => ?_⟩
      exact hs _ _ _ _ (spOf_R ok.hK.symm m2 (.cons (r.mono l2) r2) q2)
    · rw [if_neg hi] at q; exact q.elim
  | _ => rw [if_neg (by intro z; cases z)] at q; exact q.elim
def mMeth0 (c m : Str) (n : Nat) (F : Fn) (mo : M D) : M D := fun env S => (mo env S).bind fun o env S => if insOf c m o = true then if n = 1 then (F [o] S).toR env else .stuck else .stuck
theorem e_meth0 {pl : Sem Bool} (G : GMt X.prog X.w X.K X.mg X.base c m n j F) (ok : Okc X C k) (hj : j ≤ k) (ho : E X C o mo)
    (ht : eval (.Call (.Attribute o m apos) [] [] pos) X.env = (do
      let ov ← eval o X.env
      standAt apos.atName
      let (f, first) ← holding [ov] (getMethod ov m pl)
      callWith pos f first (backTo pos (starEach [] X.env)) (backToKw pos (keywordEach [] X.env))) := by rfl) :
    E X C (.Call (.Attribute o m apos) [] [] pos) (mMeth0 c m n F mo) := by
  obtain ⟨f, fd, ps, sp, ds, dvs, hc, hm, hb, hd, hF, hs⟩ := G
  refine PE.imp (pe_meth0 (pl := pl) ho hc hm hF (ok.room.mono hj) hb hd ok.passes ht) fun σ H Q ⟨B, W, L, env, S, m0, q0⟩ => ?_
  refine ⟨B, W, L, env, S, m0, (Post.bind q0).mono fun d W' env' S' H' le m' q v r => ?_⟩
  cases d with
  | ins c' ns xs =>
    by_cases hi : insOf c m (.ins c' ns xs) = true
    · rw [if_pos hi] at q
      have hi' : (decide (c' = c) && decide (m ∉ ns)) = true := hi
      rw [Bool.and_eq_true, decide_eq_true_eq, decide_eq_true_eq] at hi'
      obtain ⟨rfl, hns⟩ := hi'
      obtain ⟨p0, dx, vs, rfl, hp, hl, rs⟩ := RepH.ins_inv m'.s.ex (.inl r)
      refine ⟨p0, dx, _, rfl, by rw [ok.hK]; exact hp, zip_lookup_none hns, ?_⟩
      refine hs _ _ _ _ (spOf_R (env := env') ok.hK.symm m' (.cons r .nil) ?_)
      by_cases hn : n = 1
      · rw [if_pos hn] at q
        rw [if_pos (by rw [hn]; rfl)]
        exact q
      · rw [if_neg hn] at q; exact q.elim
    · rw [if_neg hi] at q; exact q.elim
  | _ => rw [if_neg (by intro z; cases z)] at q; exact q.elim
end
end Vf
/-! Vf6: fields, properties, instances made, locals and cells changed, raise. -/
namespace Vf
open PySem PySem.Spec PyProof.Rows L2

/-! ### fields -/
def lookN (f : Str) : List Str → List D → Option D
  | n :: ns, x :: xs => if f = n then some x else lookN f ns xs
  | _, _ => none
theorem lookN_ok {K : PySem.W.Frag} {G : Hp} {rho : List Addr} {f : Str} {d : D} : ∀ {ns : List Str} {vs : List V} {xs : List D}, Reps K G rho vs xs → lookN f ns xs = some d → ∃ v, (ns.zip vs).lookup f = some v ∧ Rep K G rho v d
  | [], _, xs, _, e => by cases xs <;> cases e
  | n :: ns, _, _, .nil, e => by cases e
  | n :: ns, _, _, .cons (v := v) (vs := vs) (d := x) (ds := xs) h t, e => by
    have e' : (if f = n then some x else lookN f ns xs) = some d := e
    show ∃ v', List.lookup f ((n, v) :: ns.zip vs) = some v' ∧ _
    by_cases z : f = n
    · rw [if_pos z] at e'; cases e'
      rw [List.lookup_cons, beq_iff_eq.mpr z]
      exact ⟨v, rfl, h⟩
    · rw [if_neg z] at e'
      rw [List.lookup_cons, beq_eq_false_iff_ne.mpr z]
      exact lookN_ok t e'
def putNs (f : Str) : List Str → List Str
  | [] => [f]
  | n :: ns => if n = f then f :: ns else n :: putNs f ns
def putXs {α : Type} (f : Str) (d : α) : List Str → List α → List α
  | [], _ => [d]
  | n :: ns, x :: xs => if n = f then d :: xs else x :: putXs f d ns xs
  | _ :: _, [] => []
theorem putF_zip {f : Str} {v : V} : ∀ {ns : List Str} {vs : List V}, ns.length = vs.length → putF f v (ns.zip vs) = (putNs f ns).zip (putXs f v ns vs)
  | [], [], _ => rfl
  | [], _ :: _, h => by cases h
  | _ :: _, [], h => by cases h
  | n :: ns, x :: xs, h => by
    show putF f v ((n, x) :: ns.zip xs) = _
    unfold putF putNs putXs
    by_cases z : n = f
    · simp [z]
    · simp [z, putF_zip (ns := ns) (vs := xs) (by simpa using h)]
theorem putXs_rep {K : PySem.W.Frag} {G : Hp} {rho : List Addr} {f : Str} {v : V} {d : D} (h : Rep K G rho v d) : ∀ {ns : List Str} {vs : List V} {xs : List D}, Reps K G rho vs xs → Reps K G rho (putXs f v ns vs) (putXs f d ns xs)
  | [], _, _, _ => by unfold putXs; exact .cons h .nil
  | n :: ns, _, _, .nil => by unfold putXs; exact .nil
  | n :: ns, _, _, .cons hh t => by
    unfold putXs
    by_cases z : n = f
    · simp only [if_pos z]; exact .cons h t
    · simp only [if_neg z]; exact .cons hh (putXs_rep h t)
theorem put_len {f : Str} {v : V} : ∀ {ns : List Str} {vs : List V}, ns.length = vs.length → (putNs f ns).length = (putXs f v ns vs).length
  | [], [], _ => rfl
  | [], _ :: _, h => by cases h
  | _ :: _, [], h => by cases h
  | n :: ns, x :: xs, h => by
    unfold putNs putXs
    by_cases z : n = f
    · simp only [if_pos z]; exact h
    · simp only [if_neg z]
      show (putNs f ns).length + 1 = (putXs f v ns xs).length + 1
      rw [put_len (ns := ns) (vs := xs) (by simpa using h)]
/-- the class c has no attribute f of its own: instances' fields of that name are plain -/
def GFd (K : PySem.W.Frag) (f : Str) (cs : List Str) : Prop := ∀ c ∈ cs, Cls K (He.ga K c) ∧ NoAttr K (He.ga K c) f
def dFld (f : Str) (cs : List Str) : D → Option D
  | .ins c ns xs => if c ∈ cs then lookN f ns xs else none
  | _ => none
def mFld (f : Str) (cs : List Str) (mo : M Opd) : M D := fun env S => (mo env S).bind fun o env S => match resO env S o with
  | some x => Res.lift (dFld f cs x) env S
  | none => .stuck
section
variable {X : Cx} {C : Ctx} {k j n : Nat} {F : Fn} {c f x : Str} {cs : List Str} {p pos pos' : Pos} {e o : Expr} {es : List Expr} {ma : M (List D)} {mo : M D} {mp : M Opd}
theorem e_fld (g : GFd X.K f cs) (hK : X.K = C.K) (he : EO X C e mp) (hb : attributeBase e f X.env (eval e X.env) = eval e X.env := by rfl) : E X C (.Attribute e f pos) (mFld f cs mp) := by
  refine PE.imp (pe_fld he hb) fun σ H Q ⟨B, W, L, env, S, m, q0⟩ => ?_
  refine ⟨B, W, L, env, S, m, (Post.bind q0).mono fun o W' env' S' H' le m' q v r => ?_⟩
  cases q1 : resO env' S' o with
  | none => simp only [q1] at q; exact q.elim
  | some x =>
    simp only [q1] at q
    cases x with
    | ins c ns xs =>
      obtain ⟨p0, dx, vs, rfl, hp, hl, rs⟩ := RepH.ins_inv m'.s.ex (m'.res r q1)
      by_cases hc : c ∈ cs
      · have q : Post C B L σ W' (Res.lift (if c ∈ cs then lookN f ns xs else none) env' S') _ := q
        rw [if_pos hc] at q
        cases q2 : lookN f ns xs with
        | none => rw [q2] at q; exact q.elim
        | some d =>
          rw [q2] at q
          obtain ⟨v, hv, rv⟩ := lookN_ok rs q2
          rw [← hK] at hp
          exact ⟨p0, _, dx, _, v, rfl, hp, (g c hc).1, (g c hc).2, hv, q W' H' (Wd.Le.refl W') m' v rv⟩
      · have q : Post C B L σ W' (Res.lift (if c ∈ cs then lookN f ns xs else none) env' S') _ := q
        rw [if_neg hc] at q; exact q.elim
    | _ => exact q.elim
/-! ### properties -/
def CRes.quiet : CRes → CRes
  | .err _ _ => .stuck
  | r => r
def GPr (P : Program) (w : World) (K : PySem.W.Frag) (mg : Str → Option Value) (base : Heap) (c f : Str) (k : Nat) (F : Fn) : Prop :=
  ∃ (q g : Addr) (fd : FuncData) (ps : List Str), Cls K (He.ga K c) ∧ PropOf K (He.ga K c) f q g ∧ Binds K fd ps [] ∧ FnOk P w K mg base (L2N.CX P w) k g fd ps (spOf K 1 F)
def mProp (c : Str) (F : Fn) (mo : M D) : M D := fun env S => (mo env S).bind fun o env S => match o with
  | .ins c' _ _ => if c' = c then (F [o] S).quiet.toR env else .stuck
  | _ => .stuck
theorem passN {X : Cx} : Passes (L2N.CX X.prog X.w) X E0 := fun _ _ _ _ _ _ _ h => by
  obtain ⟨_, _, _, _, _, _, _, _, _, _, _, _, z⟩ := h
  exact z.elim
theorem e_prop (G : GPr X.prog X.w X.K X.mg X.base c f j F) (ok : Okc X C k) (hj : j + 1 ≤ k) (ho : E X C o mo) (hab : attributeBase o f X.env (eval o X.env) = eval o X.env := by rfl) : E X C (.Attribute o f pos) (mProp c F mo) := by
  obtain ⟨pq, g, fd, ps, hc, hp, hb, hF⟩ := G
  refine PE.imp (pe_prop ho hc hp hF (ok.room.mono hj) hb .nil (E := E0) (passN (X := X.nox)) hab) fun σ H Q ⟨B, W, L, env, S, m0, q0⟩ => ?_
  refine ⟨B, W, L, env, S, m0, (Post.bind q0).mono fun d W' env' S' H' le m' q v r => ?_⟩
  cases d with
  | ins c' ns xs =>
    have q1 : Post C B L σ W' (if c' = c then (F [.ins c' ns xs] S').quiet.toR env' else .stuck) _ := q
    by_cases hc' : c' = c
    · rw [if_pos hc'] at q1
      subst hc'
      obtain ⟨p0, dx, vs, rfl, hp, hl, rs⟩ := RepH.ins_inv m'.s.ex (.inl r)
      rw [← ok.hK] at hp
      refine ⟨p0, dx, _, rfl, hp, rfl, ?_⟩
      rw [ok.hK]
      refine ⟨W', [.ins c' ns xs], S', m'.s, .cons r .nil, ?_⟩
      cases e : F [.ins c' ns xs] S' with
      | ok d S2 => rw [e] at q1; exact fun W2 H2 v a s2 rv => q1 W2 H2 a.le (m'.aft a s2) v rv
      | new d S2 =>
        rw [e] at q1
        intro W2 H2 p1 a s2 c2 g2 nr h
        obtain ⟨W3, l3, m3, r3⟩ := (m'.aft a s2).frzOwn (m'.ownNew a s2 c2 g2 nr h)
        exact q1 W3 H2 (a.le.trans l3) m3 _ r3
      | err y S2 => rw [e] at q1; exact q1.elim
      | stuck => rw [e] at q1; exact q1.elim
    · rw [if_neg hc'] at q1; exact q1.elim
  | _ => exact q.elim
end

/-! ### an instance is made -/
structure AftI (x : Addr) (W : Wd) (H : Hp) (W' : Wd) (H' : Hp) : Prop where
  le : W.Le W'
  new : ∀ a o, W'.G a = some o → W.G a = some o ∨ H a = none
  newrho : ∀ (n : Nat) (p : Addr), W.rho.length ≤ n → W'.rho[n]? = some p → H p = none
  kept : ∀ a o, a ≠ x → H a = some o → a ∉ W.rho → H' a = some o
def spInit (K : PySem.W.Frag) (c : Str) (n : Nat) (F : Fn) : Sp := fun vs H Q E => ∃ x dx vs' W ds S, vs = .ref x :: vs' ∧ vs'.length = n ∧ SimS K W S H ∧ Reps K W.G W.rho vs' ds ∧ H x = some (.ins (He.ga K c) dx []) ∧ W.G x = none ∧ x ∉ W.rho ∧ match F ds S with
  | .ok d S' => ∀ W' H', AftI x W H W' H' → SimS K W' S' H' → CellAt K W' H' x d → W'.G x = none → x ∉ W'.rho → Q .non H'
  | .err y S' => ∀ W' H' cls dd, AftI x W H W' H' → SimS K W' S' H' → RepX K W' cls dd y → E cls dd H'
  | _ => False
def envI (c : Str) (n : Nat) (ds : List D) : List Slot := .loc (.ins c [] []) :: (ds.map .val ++ List.replicate (n - 1 - ds.length) .none)
def locAt (env : List Slot) (i : Nat) : Option D := match env[i]? with
  | some (.loc d) => some d
  | _ => none
theorem locAt_eq {env : List Slot} {i : Nat} {d : D} (h : locAt env i = some d) : env[i]? = some (.loc d) := by
  unfold locAt at h
  cases q : env[i]? with
  | none => rw [q] at h; cases h
  | some s =>
    rw [q] at h
    cases s with
    | loc c => cases h; rfl
    | none => cases h
    | val c => cases h
def fnInit (c : Str) (n : Nat) (ms : MS) : Fn := fun ds S => match ms (envI c n ds) S with
  | .ret .non env S => (match locAt env 0 with
    | some d => .ok d S
    | none => .stuck)
  | .next env S => (match locAt env 0 with
    | some d => .ok d S
    | none => .stuck)
  | .err x env S => (match locAt env 0 with
    | some _ => .err x S
    | none => .stuck)
  | _ => .stuck
section
variable {P : Program} {w : World} {K : PySem.W.Frag} {mg : Str → Option Value} {base : Heap}
theorem sim_startI {c : Str} {W : Wd} {S : List D} {H : Hp} {N : List Str} {vs : List V} {ds : List D} {x dx : Addr} (s : SimS K W S H) (r : Reps K W.G W.rho vs ds) (hl : vs.length + 1 ≤ N.length) (hx : H x = some (.ins (He.ga K c) dx [])) (g : W.G x = none) (nr : x ∉ W.rho) :
    Sim K ⟨fun a => if a = x then none else H a, W, some x⟩ W (fun _ => x) (envI c N.length ds) S (L2.start N (.ref x :: vs)) H := by
  have hlen := r.length
  have noloc : ∀ (i : Nat) (d : D), (envI c N.length ds)[i + 1]? ≠ some (.loc d) := fun i d e => by
    unfold envI at e
    rw [List.getElem?_cons_succ] at e
    by_cases hi : i < (ds.map Slot.val).length
    · rw [List.getElem?_append_left hi, List.getElem?_map] at e
      cases q : ds[i]? with
      | none => rw [q] at e; cases e
      | some x => rw [q] at e; cases e
    · rw [List.getElem?_append_right (by omega), List.getElem?_replicate] at e
      split at e <;> cases e
  refine ⟨s, fun i d e => ?_, fun i d e => ?_, fun i j c1 c2 e1 e2 _ => ?_, Wd.Le.refl W, fun a o e => .inl e, fun n p hn e => ?_, fun a o e _ => ?_, ?_, fun p e => by cases e; rfl⟩
  · cases i with
    | zero => unfold envI at e; cases e
    | succ i =>
      unfold envI at e
      rw [List.getElem?_cons_succ] at e
      by_cases hi : i < (ds.map Slot.val).length
      · rw [List.getElem?_append_left hi, List.getElem?_map] at e
        cases q : ds[i]? with
        | none => rw [q] at e; cases e
        | some y =>
          rw [q] at e; cases e
          obtain ⟨v, hv, rv⟩ := r.get q
          refine ⟨v, ?_, rv⟩
          unfold L2.start
          have hi' : i + 1 < ((V.ref x :: vs).map some).length := by rw [List.length_map] at hi ⊢; simp; omega
          rw [List.getElem?_append_left hi', List.getElem?_map, List.getElem?_cons_succ, hv]
          rfl
      · rw [List.getElem?_append_right (by omega), List.getElem?_replicate] at e
        split at e <;> cases e
  · cases i with
    | zero =>
      unfold envI at e
      cases e
      exact ⟨rfl, ⟨_, hx, .ins (ns := []) (vs := []) rfl .nil⟩, g, nr, if_pos rfl⟩
    | succ i => exact absurd e (noloc i d)
  · cases i with
    | zero => cases j with
      | zero => rfl
      | succ j => exact absurd e2 (noloc j c2)
    | succ i => exact absurd e1 (noloc i c1)
  · rw [List.getElem?_eq_none hn] at e; cases e
  · have e' : (if a = x then none else H a) = some o := e
    by_cases z : a = x
    · rw [if_pos z] at e'; cases e'
    · rw [if_neg z] at e'; exact e'
  · unfold envI L2.start
    rw [List.length_cons, List.length_append, List.length_append, List.length_map, List.length_map, List.length_replicate, List.length_replicate, List.length_cons]
    omega
theorem Sim.aftI {W W' : Wd} {L : Nat → Addr} {env : List Slot} {S : List D} {σ : St} {H H' : Hp} {x : Addr} (g : W'.G x = none) (nr : x ∉ W'.rho) (m : Sim K ⟨fun a => if a = x then none else H a, W, some x⟩ W' L env S σ H') : AftI x W H W' H' := by
  refine ⟨m.le, fun a u e => ?_, fun n p hn e => ?_, fun a u z e hr => m.kept a u (by show (if a = x then none else H a) = _; rw [if_neg z]; exact e) hr⟩
  · rcases m.new a u e with h | h
    · exact .inl h
    · have h' : (if a = x then none else H a) = none := h
      by_cases z : a = x
      · rw [z, g] at e; cases e
      · rw [if_neg z] at h'; exact .inr h'
  · have h' : (if p = x then none else H p) = none := m.newrho n p hn e
    by_cases z : p = x
    · exact absurd (by rw [← z]; exact List.mem_of_getElem? e) nr
    · rw [if_neg z] at h'; exact h'
theorem init_ok {c x qual : Str} {params : Arguments} {body : List Stmt} {scope : Scope} {dvs : List V} {kws : List (Str × V)} {f : Addr} {fd : FuncData} {N ps : List Str} {k n : Nat} {ms : MS} (F : FunD K x qual params body scope dvs kws f fd) (Sc : FnScope N ps scope) (hn : ps.length = n + 1)
    (hb : ∀ (X : Cx) (C : Ctx), X.prog = P → X.w = w → X.mg = mg → X.base = base → X.K = K → C.K = K → X.N = N → X.env.scope = scope → X.fn = (fun _ => true) → Oks X C k → ESs X C body ms) :
    FnOk P w K mg base (L2N.CX P w) (k + 1) f fd ps (spInit K c n (fnInit c N.length ms)) := by
  refine F.ok Sc (fun vs H Q E h => ?_) fun cdv A outer s H vs Q E hr ⟨y, dx, vs', W, ds, S, e0, hl, m, r, hx, g, nr, p⟩ => ?_
  · obtain ⟨y, dx, vs', W, ds, S, rfl, hl, _⟩ := h
    rw [List.length_cons, hl, hn]
  · subst e0
    have hpl : ps.length ≤ N.length := by have := congrArg List.length Sc.pre; rw [List.length_take] at this; omega
    refine ⟨_, hb (cxOf (L2N.CX P w) P w K mg base N qual scope f cdv A outer s H E) ⟨K, E⟩ rfl rfl rfl rfl rfl rfl rfl rfl rfl ⟨⟨rfl, Sc.nd, hr, L2N.takes_of rfl rfl rfl rfl, rfl⟩, passes_of rfl, rfl, rfl⟩, ⟨fun a => if a = y then none else H a, W, some y⟩, W, fun _ => y, envI c N.length ds, S, sim_startI m r (by omega) hx g nr, ?_⟩
    unfold fnInit at p
    have fin : ∀ {W' : Wd} {L : Nat → Addr} {σ' : St} {H' : Hp} {env : List Slot} {S' : List D} {d : D}, locAt env 0 = some d → Sim K ⟨fun a => if a = y then none else H a, W, some y⟩ W' L env S' σ' H' → AftI y W H W' H' ∧ CellAt K W' H' y d ∧ W'.G y = none ∧ y ∉ W'.rho := fun {W' L σ' H' env S' d} e m' => by
      obtain ⟨_, c1, g1, n1, _⟩ := m'.loc 0 d (locAt_eq e)
      rw [m'.pin y rfl] at c1 g1 n1
      exact ⟨m'.aftI g1 n1, c1, g1, n1⟩
    cases q : ms (envI c N.length ds) S with
    | next env S' =>
      rw [q] at p
      cases e : locAt env 0 with
      | none => simp only [e] at p
      | some d =>
        simp only [e] at p
        intro W' L σ' H' l m'
        obtain ⟨a, c1, g1, n1⟩ := fin e m'
        exact p W' H' a m'.s c1 g1 n1
    | ret d0 env S' =>
      rw [q] at p
      cases d0 with
      | non =>
        cases e : locAt env 0 with
        | none => simp only [e] at p
        | some d =>
          simp only [e] at p
          intro W' L σ' H' v l m' rv
          obtain ⟨a, c1, g1, n1⟩ := fin e m'
          rw [rv.non_inv]
          exact p W' H' a m'.s c1 g1 n1
      | _ => exact p.elim
    | retN d env S' => rw [q] at p; exact p.elim
    | brk env S' => rw [q] at p; exact p.elim
    | cont env S' => rw [q] at p; exact p.elim
    | err x env S' =>
      rw [q] at p
      cases e : locAt env 0 with
      | none => simp only [e] at p
      | some d =>
        simp only [e] at p
        intro W' L σ' H' cls dd l m' rx
        exact p W' H' cls dd (fin e m').1 m'.s rx
    | stuck => rw [q] at p; exact p.elim
end
/-- the class c, made with n values -/
def GMk (P : Program) (w : World) (K : PySem.W.Frag) (mg : Str → Option Value) (base : Heap) (c : Str) (n k : Nat) (F : Fn) : Prop :=
  ∃ (f : Addr) (fd : FuncData) (ps : List Str), mg c = some (.ref (He.ga K c)) ∧ Mk K (He.ga K c) f ∧ Binds K fd ps [] ∧ FnOk P w K mg base (L2N.CX P w) k f fd ps (spInit K c n F)
def nMake (n : Nat) (F : Fn) (m : M (List D)) : M D := fun env S => (m env S).bind fun ds env S => if ds.length = n then (match F ds S with
  | .ok d S => .ok d env S
  | .err x S => .err x env S
  | _ => .stuck) else .stuck
section
variable {X : Cx} {C : Ctx} {k j n : Nat} {F : Fn} {c : Str} {p pos : Pos} {e : Expr} {es : List Expr} {ma : M (List D)}
theorem Sim.aftM {K : PySem.W.Frag} {B : Bs} {W W' : Wd} {L : Nat → Addr} {env : List Slot} {S S' : List D} {σ : St} {H H' : Hp} {x dx : Addr} {o o2 : HO} (m : Sim K B W L env S σ H) (hx : H x = none) (hdx : H dx = none) (hne : dx ≠ x)
    (a : AftI x W (upd (upd H dx o2) x o) W' H') (s' : SimS K W' S' H') : Sim K B W' L env S' σ H' := by
  refine m.aft ⟨a.le, fun b u e => ?_, fun i q hi e => ?_, fun b u e hb => a.kept b u (ne_of_none e hx) ?_ hb⟩ s'
  · rcases a.new b u e with h | h
    · exact .inl h
    · refine .inr ?_
      by_cases z : b = x
      · rw [z]; exact hx
      · rw [upd_ne z] at h
        by_cases z2 : b = dx
        · rw [z2]; exact hdx
        · rw [upd_ne z2] at h; exact h
  · have h := a.newrho i q hi e
    by_cases z : q = x
    · rw [z]; exact hx
    · rw [upd_ne z] at h
      by_cases z2 : q = dx
      · rw [z2]; exact hdx
      · rw [upd_ne z2] at h; exact h
  · rw [upd_ne (ne_of_none e hx), upd_ne (ne_of_none e hdx)]; exact e
theorem SimS.two {K : PySem.W.Frag} {B : Bs} {W : Wd} {L : Nat → Addr} {env : List Slot} {S : List D} {σ : St} {H : Hp} {x dx : Addr} {o o2 : HO} (m : Sim K B W L env S σ H) (hx : H x = none) (hdx : H dx = none) (hne : dx ≠ x) : SimS K W S (upd (upd H dx o2) x o) :=
  ((m.garb hdx).garb (o := o) (by rw [upd_ne (Ne.symm hne)]; exact hx)).s
theorem n_make (G : GMk X.prog X.w X.K X.mg X.base c n j F) (ok : Okc X C k) (hj : j + 1 ≤ k) (ha : EA X C (e :: es) ma) (hg : Gl X c := by rfl) (hdb : (c == ("__debug__" : Str)) = false := by decide)
    (he : starEach (e :: es) X.env = (false, eval e X.env) :: starEach es X.env := by rfl) (hpl : (backTo pos (starEach es X.env)).any (·.1) = false := by rfl) : EN X C (.Call (.Name c p) (e :: es) [] pos) (nMake n F ma) := by
  obtain ⟨f, fd, ps, hm, hM, hb, hF⟩ := G
  refine PE.imp (pe_make hM hF (ok.room.mono hj) hg hm hb .nil ok.passes ha hdb he hpl) fun σ H Q ⟨B, W, L, env, S, m0, q0⟩ => ?_
  refine ⟨B, W, L, env, S, m0, (Post.bind q0).mono fun ds W1 env1 S1 H1 le1 m1 q vs r x dx hx hdx hne => ?_⟩
  by_cases hn : ds.length = n
  · rw [if_pos hn] at q
    obtain ⟨f1, f2, f3, f4⟩ := m1.free hx
    rw [ok.hK]
    refine ⟨x, dx, vs, W1, ds, S1, by simp, by rw [r.length]; exact hn, SimS.two m1 hx hdx hne, r, upd_same, f1, f2, ?_⟩
    cases e1 : F ds S1 with
    | ok d S2 =>
      rw [e1] at q
      intro W' H' a s' c1 g1 n1
      exact ⟨rfl, q W' H' a.le (m1.aftM hx hdx hne a s') x ⟨c1, g1, n1, f3, f4⟩⟩
    | new d S2 => rw [e1] at q; exact q.elim
    | err y S2 =>
      rw [e1] at q
      exact fun W' H' cls dd a s' rx => q W' H' cls dd a.le (m1.aftM hx hdx hne a s') rx
    | stuck => rw [e1] at q; exact q.elim
  · rw [if_neg hn] at q; exact q.elim
end
end Vf
/-! Vf7: operations by values. -/
namespace Vf
open PySem PySem.Spec PyProof.Rows L2

/-! ### arithmetic -/
theorem opd_int {K : PySem.W.Frag} {g : Int → Int → Int} {f : D → D → Option D} (h : ∀ a b d, f a b = some d → ∃ i j, a = .int i ∧ b = .int j ∧ d = .int (g i j)) : OpD K (rI0 fun i j => .int (g i j)) f := fun W H v u a b d Q fz ra rb e k => by
  obtain ⟨i, j, rfl, rfl, rfl⟩ := h a b d e
  exact ⟨i, j, ra.int_inv, rb.int_inv, k _ _ _ (.same (.int _))⟩
theorem opd_intC {K : PySem.W.Frag} {c : Int → Int → Prop} {g : Int → Int → Int} {f : D → D → Option D} (h : ∀ a b d, f a b = some d → ∃ i j, a = .int i ∧ b = .int j ∧ c i j ∧ d = .int (g i j)) : OpD K (rI c fun i j => .int (g i j)) f := fun W H v u a b d Q fz ra rb e k => by
  obtain ⟨i, j, rfl, rfl, hc, rfl⟩ := h a b d e
  exact ⟨i, j, ra.int_inv, rb.int_inv, hc, k _ _ _ (.same (.int _))⟩
theorem opd_bool {K : PySem.W.Frag} {g : Int → Int → Bool} {f : D → D → Option D} (h : ∀ a b d, f a b = some d → ∃ i j, a = .int i ∧ b = .int j ∧ d = .bl (g i j)) : OpD K (rI0 fun i j => .bl (g i j)) f := fun W H v u a b d Q fz ra rb e k => by
  obtain ⟨i, j, rfl, rfl, rfl⟩ := h a b d e
  exact ⟨i, j, ra.int_inv, rb.int_inv, k _ _ _ (.same (.bl _))⟩
theorem OpD.or {K : PySem.W.Frag} {r r' : R2} {f g : D → D → Option D} (h : OpD K r f) (h' : OpD K r' g) : OpD K (fun x y H Q => r x y H Q ∨ r' x y H Q) (fun a b => match f a b with | some d => some d | none => g a b) := fun W H v u a b d Q fz ra rb e k => by
  cases q : f a b with
  | some x => simp only [q] at e; cases e; exact .inl (h W H v u a b _ Q fz ra rb q k)
  | none => simp only [q] at e; exact .inr (h' W H v u a b d Q fz ra rb e k)
theorem OpD.to {K : PySem.W.Frag} {r : R2} {f g : D → D → Option D} (h : OpD K r f) (e : ∀ a b d, g a b = some d → f a b = some d) : OpD K r g := fun W H v u a b d Q fz ra rb q k => h W H v u a b d Q fz ra rb (e a b d q) k
def iAdd : D → D → Option D
  | .int i, .int j => some (.int (i + j))
  | _, _ => none
def sAdd : D → D → Option D
  | .str a, .str b => if a.length + b.length ≤ sizeLine then some (.str (a ++ b)) else none
  | _, _ => none
def lAdd : D → D → Option D
  | .lst a, .lst b => if a.length + b.length ≤ sizeLine then some (.lst (a ++ b)) else none
  | _, _ => none
def tAdd' : D → D → Option D
  | .tup a, .tup b => if a ≠ [] ∧ b ≠ [] ∧ a.length + b.length ≤ sizeLine then some (.tup (a ++ b)) else none
  | _, _ => none
def dAdd : D → D → Option D
  | .int i, .int j => some (.int (i + j))
  | .str a, .str b => sAdd (.str a) (.str b)
  | .lst a, .lst b => lAdd (.lst a) (.lst b)
  | .tup a, .tup b => tAdd' (.tup a) (.tup b)
  | _, _ => none
abbrev rAddS : R2 := fun x y H Q => ∃ i j, x = .str i ∧ y = .str j ∧ i.length + j.length ≤ sizeLine ∧ Q (.str (i ++ j)) H
theorem od_iAdd {K : PySem.W.Frag} : OpD K (rI0 fun i j => .int (i + j)) iAdd := opd_int fun a b d e => by
  cases a <;> cases b <;> first | cases e; exact ⟨_, _, rfl, rfl, rfl⟩ | cases e
theorem od_sAdd {K : PySem.W.Frag} : OpD K rAddS sAdd := fun W H v u a b d Q fz ra rb e k => by
  cases a with
  | str a =>
    cases b with
    | str b =>
      have e' : (if a.length + b.length ≤ sizeLine then some (D.str (a ++ b)) else none) = some d := e
      by_cases h : a.length + b.length ≤ sizeLine
      · rw [if_pos h] at e'; cases e'
        exact ⟨a, b, ra.str_inv, rb.str_inv, h, k _ _ _ (.same (.str _))⟩
      · rw [if_neg h] at e'; cases e'
    | _ => cases e
  | _ => cases e
theorem od_lAdd {K : PySem.W.Frag} : OpD K rCat lAdd := fun W H v u a b d Q fz ra rb e k => by
  cases a with
  | lst a =>
    cases b with
    | lst b =>
      have e' : (if a.length + b.length ≤ sizeLine then some (D.lst (a ++ b)) else none) = some d := e
      by_cases h : a.length + b.length ≤ sizeLine
      · rw [if_pos h] at e'; cases e'
        obtain ⟨p, vs, rfl, hp, r⟩ := ra.lst_inv fz
        obtain ⟨q, us, rfl, hq, r'⟩ := rb.lst_inv fz
        exact ⟨p, q, vs, us, rfl, rfl, hp, hq, by rw [r.length, r'.length]; exact h, fun p0 h0 => k _ _ _ (.new h0 (.lst (r.append r')))⟩
      · rw [if_neg h] at e'; cases e'
    | _ => cases e
  | _ => cases e
theorem od_tAdd {K : PySem.W.Frag} : OpD K (rCatT K) tAdd' := fun W H v u a b d Q fz ra rb e k => by
  cases a with
  | tup a =>
    cases b with
    | tup b =>
      have e' : (if a ≠ [] ∧ b ≠ [] ∧ a.length + b.length ≤ sizeLine then some (D.tup (a ++ b)) else none) = some d := e
      by_cases h : a ≠ [] ∧ b ≠ [] ∧ a.length + b.length ≤ sizeLine
      · rw [if_pos h] at e'; cases e'
        obtain ⟨p, vs, rfl, hp, r⟩ := ra.tup_inv fz
        obtain ⟨q, us, rfl, hq, r'⟩ := rb.tup_inv fz
        refine ⟨p, q, vs, us, rfl, rfl, .of hp, .of hq, fun z => ?_, by rw [r.length, r'.length]; exact h.2.2, fun z => ?_, fun z p0 h0 => k _ _ _ (.new h0 (.tup (r.append r')))⟩
        · subst z; cases r; exact h.1 rfl
        · subst z; cases r'; exact absurd rfl h.2.1
      · rw [if_neg h] at e'; cases e'
    | _ => cases e
  | _ => cases e
def iSub : D → D → Option D
  | .int i, .int j => some (.int (i - j))
  | _, _ => none
theorem od_iSub {K : PySem.W.Frag} : OpD K (rI0 fun i j => .int (i - j)) iSub := opd_int fun a b d e => by
  cases a <;> cases b <;> first | cases e; exact ⟨_, _, rfl, rfl, rfl⟩ | cases e
theorem op_addAll {X : Cx} : OpR X (binaryOp .Add) (fun x y H Q => (rI0 fun i j => .int (i + j)) x y H Q ∨ rAddS x y H Q ∨ rCat x y H Q ∨ rCatT X.K x y H Q) := op_add.or (op_add_str.or (op_cat.or op_catT))
theorem od_add {K : PySem.W.Frag} : OpD K (fun x y H Q => (rI0 fun i j => .int (i + j)) x y H Q ∨ rAddS x y H Q ∨ rCat x y H Q ∨ rCatT K x y H Q) dAdd := (od_iAdd.or (od_sAdd.or (od_lAdd.or od_tAdd))).to fun a b d e => by
  cases a <;> cases b <;> first | exact e | (cases e) | skip
  case str.str x y =>
    have e' : sAdd (.str x) (.str y) = some d := e
    simp only [iAdd, e']
  case lst.lst x y =>
    have e' : lAdd (.lst x) (.lst y) = some d := e
    simp only [iAdd, sAdd, e']
def iMul : D → D → Option D
  | .int i, .int j => if i.natAbs.log2 + j.natAbs.log2 < 1000000 then some (.int (i * j)) else none
  | _, _ => none
theorem od_iMul {K : PySem.W.Frag} : OpD K (rI CMulW fun i j => .int (i * j)) iMul := opd_intC fun a b d e => by
  cases a with
  | int i =>
    cases b with
    | int j =>
      have e' : (if i.natAbs.log2 + j.natAbs.log2 < 1000000 then some (D.int (i * j)) else none) = some d := e
      by_cases h : i.natAbs.log2 + j.natAbs.log2 < 1000000
      · rw [if_pos h] at e'; cases e'; exact ⟨i, j, rfl, rfl, h, rfl⟩
      · rw [if_neg h] at e'; cases e'
    | _ => cases e
  | _ => cases e
theorem mulOk_of {x : Str} {n : Int} (h1 : -(2 ^ 63) ≤ n) (h2 : n < 2 ^ 63) (h3 : x.length * n.toNat ≤ sizeLine) : PySem.MulOk x n := by
  have hs : sizeLine = 16777216 := sizeLine_eq
  refine ⟨?_, fun h _ => ?_, fun h _ => ?_⟩
  · rw [Bool.or_eq_false_iff]
    exact ⟨decide_eq_false (by omega), decide_eq_false (by omega)⟩
  · obtain ⟨k, hk⟩ : ∃ k : Nat, n = k := ⟨n.toNat, by omega⟩
    subst hk
    have h3' : x.length * k ≤ sizeLine := by simpa using h3
    have hk1 : 1 ≤ k := by omega
    have hx : (x.length : Int) * k ≤ 16777216 := by
      have : ((x.length * k : Nat) : Int) ≤ 16777216 := by omega
      simpa using this
    have : (x.length : Int) ≤ (2 ^ 63 - 1) / (k : Int) := by
      refine Int.le_ediv_of_mul_le (by omega) ?_
      omega
    omega
  · unfold Builtin.Str.tooLong
    exact decide_eq_false (by omega)
def strRep (x : Str) (k : Nat) : Str := ⟨((List.replicate k x.cps.toList).flatten).toArray⟩
theorem foldl_arr (a : Array Nat) : ∀ (k : Nat) (acc : Array Nat), (List.replicate k a).foldl (· ++ ·) acc = (acc.toList ++ (List.replicate k a.toList).flatten).toArray
  | 0, acc => by simp
  | k + 1, acc => by
    rw [List.replicate_succ, List.foldl_cons, foldl_arr a k]
    simp [List.replicate_succ]
theorem mul_rep (x : Str) (n : Int) : Txt.mul x n = strRep x n.toNat := by
  unfold Txt.mul strRep
  by_cases h : n < 1
  · rw [if_pos h]
    have e : n.toNat = 0 := by omega
    rw [e]
    rfl
  · rw [if_neg h]
    by_cases h2 : (n == 1 || x.length == 0) = true
    · rw [if_pos h2]
      rw [Bool.or_eq_true] at h2
      rcases h2 with h2 | h2
      · have e : n = 1 := by simpa using h2
        subst e
        simp
      · have e : x.cps.toList = [] := by
          have h3 : x.length = 0 := by simpa using h2
          have h4 : x.cps.size = 0 := h3
          have h5 : x.cps = #[] := Array.size_eq_zero_iff.mp h4
          rw [h5]
        rw [e]
        have e2 : (List.replicate n.toNat ([] : List Nat)).flatten = [] := by simp
        rw [e2]
        cases x with
        | mk c =>
          have e3 : c.toList = [] := e
          have e4 : c = #[] := by cases c; simp at e3; subst e3; rfl
          subst e4; rfl
    · rw [if_neg h2, foldl_arr]
      simp
abbrev rMulS : R2 := fun x y H Q => ∃ (z : Str) (n : Int), x = .str z ∧ y = .int n ∧ PySem.MulOk z n ∧ Q (.str (strRep z n.toNat)) H
theorem op_mulS {X : Cx} : OpR X (binaryOp .Mult) rMulS := by
  intro pins s σ H x y v u Q I rx ry h
  obtain ⟨z, n, rfl, rfl, hok, q⟩ := h
  obtain ⟨t, rfl⟩ := rx
  obtain ⟨t', rfl⟩ := ry
  refine PySem.SB.mul hok fun t2 k => ?_
  rw [mul_rep]
  exact ⟨.str _, H, I.tok _, ⟨_, rfl⟩, q⟩
def sMul : D → D → Option D
  | .str a, .int n => if (Ok62 n && OkSz (a.length * n.toNat)) = true then some (.str (strRep a n.toNat)) else none
  | _, _ => none
def lMul : D → D → Option D
  | .lst a, .int n => if (Ok62 n && OkSz (a.length * n.toNat)) = true then some (.lst (List.replicate n.toNat a).flatten) else none
  | _, _ => none
def dMul : D → D → Option D
  | .int i, .int j => iMul (.int i) (.int j)
  | .str a, .int n => sMul (.str a) (.int n)
  | .lst a, .int n => lMul (.lst a) (.int n)
  | _, _ => none
theorem od_sMul {K : PySem.W.Frag} : OpD K rMulS sMul := fun W H v u a b d Q fz ra rb e k => by
  cases a with
  | str a =>
    cases b with
    | int n =>
      have e' : (if (Ok62 n && OkSz (a.length * n.toNat)) = true then some (D.str (strRep a n.toNat)) else none) = some d := e
      by_cases h : (Ok62 n && OkSz (a.length * n.toNat)) = true
      · rw [if_pos h] at e'; cases e'
        have h' := Bool.and_eq_true_iff.mp h
        have h1 := (Ok62.lo h'.1)
        exact ⟨a, n, ra.str_inv, rb.int_inv, mulOk_of (by omega) (by omega) (OkSz.le h'.2), k _ _ _ (.same (.str _))⟩
      · rw [if_neg h] at e'; cases e'
    | _ => cases e
  | _ => cases e
theorem od_lMul {K : PySem.W.Frag} : OpD K rRep lMul := fun W H v u a b d Q fz ra rb e k => by
  cases a with
  | lst a =>
    cases b with
    | int n =>
      have e' : (if (Ok62 n && OkSz (a.length * n.toNat)) = true then some (D.lst (List.replicate n.toNat a).flatten) else none) = some d := e
      by_cases h : (Ok62 n && OkSz (a.length * n.toNat)) = true
      · rw [if_pos h] at e'; cases e'
        obtain ⟨p, vs, rfl, hp, r⟩ := ra.lst_inv fz
        have h' := Bool.and_eq_true_iff.mp h
        have h1 := (Ok62.lo h'.1)
        exact ⟨p, n, vs, rfl, rb.int_inv, hp, by omega, by omega, by rw [r.length]; exact (OkSz.le h'.2), fun p0 h0 => k _ _ _ (.new h0 (.lst (r.rep _)))⟩
      · rw [if_neg h] at e'; cases e'
    | _ => cases e
  | _ => cases e
theorem op_mulAll {X : Cx} : OpR X (binaryOp .Mult) (fun x y H Q => (rI CMulW fun i j => .int (i * j)) x y H Q ∨ rMulS x y H Q ∨ rRep x y H Q) := op_mulW.or (op_mulS.or op_rep)
theorem od_mul {K : PySem.W.Frag} : OpD K (fun x y H Q => (rI CMulW fun i j => .int (i * j)) x y H Q ∨ rMulS x y H Q ∨ rRep x y H Q) dMul := (od_iMul.or (od_sMul.or od_lMul)).to fun a b d e => by
  cases a <;> cases b <;> first | (cases e; done) | skip
  case int.int x y =>
    have e' : iMul (.int x) (.int y) = some d := e
    simp only [e']
  case str.int x y =>
    have e' : sMul (.str x) (.int y) = some d := e
    simp only [iMul, e']
  case lst.int x y =>
    have e' : lMul (.lst x) (.int y) = some d := e
    simp only [iMul, sMul, e']
def dFdiv : D → D → Option D
  | .int i, .int j => if 0 < j ∧ j.natAbs.log2 < 9000 then some (.int (i / j)) else none
  | _, _ => none
theorem od_fdiv {K : PySem.W.Frag} : OpD K (rI CDivW fun i j => .int (i / j)) dFdiv := opd_intC fun a b d e => by
  cases a with
  | int i =>
    cases b with
    | int j =>
      have e' : (if 0 < j ∧ j.natAbs.log2 < 9000 then some (D.int (i / j)) else none) = some d := e
      by_cases h : 0 < j ∧ j.natAbs.log2 < 9000
      · rw [if_pos h] at e'; cases e'; exact ⟨i, j, rfl, rfl, h, rfl⟩
      · rw [if_neg h] at e'; cases e'
    | _ => cases e
  | _ => cases e
def dMod : D → D → Option D
  | .int i, .int j => if 0 < j then some (.int (i % j)) else none
  | _, _ => none
theorem od_mod {K : PySem.W.Frag} : OpD K (rI (fun _ j => 0 < j) fun i j => .int (i % j)) dMod := opd_intC fun a b d e => by
  cases a with
  | int i =>
    cases b with
    | int j =>
      have e' : (if 0 < j then some (D.int (i % j)) else none) = some d := e
      by_cases h : 0 < j
      · rw [if_pos h] at e'; cases e'; exact ⟨i, j, rfl, rfl, h, rfl⟩
      · rw [if_neg h] at e'; cases e'
    | _ => cases e
  | _ => cases e
def dPow : D → D → Option D
  | .int i, .int j => if 0 ≤ j ∧ j ≤ 1000000 ∧ i.natAbs < 2 ^ 64 then some (.int (i ^ j.toNat)) else none
  | _, _ => none
theorem od_pow {K : PySem.W.Frag} : OpD K (rI CPow fun i j => .int (i ^ j.toNat)) dPow := opd_intC fun a b d e => by
  cases a with
  | int i =>
    cases b with
    | int j =>
      have e' : (if 0 ≤ j ∧ j ≤ 1000000 ∧ i.natAbs < 2 ^ 64 then some (D.int (i ^ j.toNat)) else none) = some d := e
      by_cases h : 0 ≤ j ∧ j ≤ 1000000 ∧ i.natAbs < 2 ^ 64
      · rw [if_pos h] at e'; cases e'; exact ⟨i, j, rfl, rfl, h, rfl⟩
      · rw [if_neg h] at e'; cases e'
    | _ => cases e
  | _ => cases e
/-! ### comparisons -/
def dLt : D → D → Option D
  | .int i, .int j => some (.bl (decide (i < j)))
  | _, _ => none
def dLe : D → D → Option D
  | .int i, .int j => some (.bl (decide (i ≤ j)))
  | _, _ => none
def dGt : D → D → Option D
  | .int i, .int j => some (.bl (decide (j < i)))
  | _, _ => none
def dGe : D → D → Option D
  | .int i, .int j => some (.bl (decide (j ≤ i)))
  | _, _ => none
section
variable {K : PySem.W.Frag}
theorem od_lt : OpD K (rI0 fun i j => .bl (decide (i < j))) dLt := opd_bool fun a b d e => by cases a <;> cases b <;> first | (cases e; exact ⟨_, _, rfl, rfl, rfl⟩) | cases e
theorem od_le : OpD K (rI0 fun i j => .bl (decide (i ≤ j))) dLe := opd_bool fun a b d e => by cases a <;> cases b <;> first | (cases e; exact ⟨_, _, rfl, rfl, rfl⟩) | cases e
theorem od_gt : OpD K (rI0 fun i j => .bl (decide (j < i))) dGt := opd_bool fun a b d e => by cases a <;> cases b <;> first | (cases e; exact ⟨_, _, rfl, rfl, rfl⟩) | cases e
theorem od_ge : OpD K (rI0 fun i j => .bl (decide (j ≤ i))) dGe := opd_bool fun a b d e => by cases a <;> cases b <;> first | (cases e; exact ⟨_, _, rfl, rfl, rfl⟩) | cases e
end
/-! == : scalars of one kind; data -/
mutual
def D.toP : D → Option PyData
  | .non => some .none
  | .bl b => some (.bool b)
  | .int i => some (.int i)
  | .str x => some (.str x)
  | .lst xs => (D.toPs xs).map .list
  | .tup xs => (D.toPs xs).map .tuple
  | _ => none
def D.toPs : List D → Option (List PyData)
  | [] => some []
  | x :: xs => match D.toP x, D.toPs xs with
    | some y, some ys => some (y :: ys)
    | _, _ => none
end
def sEq : D → D → Option Bool
  | .int i, .int j => some (decide (i = j))
  | .str x, .str y => some (decide (x = y))
  | .bl a, .bl b => some (decide (a = b))
  | _, _ => none
def pEq (a b : D) : Option Bool := match a.toP, b.toP with
  | some p, some q => if SeqAt.shaped p = true ∧ SeqAt.shaped q = true then some (PyData.eqv p q) else none
  | _, _ => none
def eqB (a b : D) : Option Bool := match sEq a b with
  | some c => some c
  | none => pEq a b
def dEq (a b : D) : Option D := (eqB a b).map .bl
def dNe (a b : D) : Option D := (eqB a b).map fun c => .bl (!c)
mutual
theorem toP_dp {K : PySem.W.Frag} {W : Wd} {H : Hp} (fz : Fz W H) : ∀ {d : D} {v : V} {p : PyData}, Rep K W.G W.rho v d → d.toP = some p → Dp K H v p
  | _, _, _, .non, e => by cases e; exact .non
  | _, _, _, .bl b, e => by cases e; exact .bl b
  | _, _, _, .int i, e => by cases e; exact .int i
  | _, _, _, .str i, e => by cases e; exact .str i
  | _, _, _, .obj (o := o) h r, e => toP_dpO fz (fz _ _ h) r e
  | _, _, _, .ref h, e => by cases e
  | _, _, _, .adr a, e => by cases e
  | _, _, _, .scr h, e => by cases e
theorem toP_dpO {K : PySem.W.Frag} {W : Wd} {H : Hp} (fz : Fz W H) : ∀ {d : D} {o : HO} {a : Addr} {p : PyData}, H a = some o → RepO K W.G W.rho o d → d.toP = some p → Dp K H (.ref a) p
  | _, _, _, _, h, .lst (xs := xs) r, e => by
    unfold D.toP at e
    cases q : D.toPs xs with
    | none => rw [q] at e; cases e
    | some ps => rw [q] at e; cases e; exact .lst (.of h) (toPs_dp fz r q)
  | _, _, _, _, h, .tup (xs := xs) r, e => by
    unfold D.toP at e
    cases q : D.toPs xs with
    | none => rw [q] at e; cases e
    | some ps => rw [q] at e; cases e; exact .tup (.of h) (toPs_dp fz r q)
  | _, _, _, _, h, .dk l r, e => by cases e
  | _, _, _, _, h, .dt l r, e => by cases e
  | _, _, _, _, h, .ins l r, e => by cases e
theorem toPs_dp {K : PySem.W.Frag} {W : Wd} {H : Hp} (fz : Fz W H) : ∀ {ds : List D} {vs : List V} {ps : List PyData}, Reps K W.G W.rho vs ds → D.toPs ds = some ps → DpAll K H vs ps
  | _, _, _, .nil, e => by cases e; exact .nil
  | _, _, _, .cons (d := x) (ds := xs) h t, e => by
    unfold D.toPs at e
    cases q : D.toP x with
    | none => simp only [q] at e; cases e
    | some y =>
      cases q2 : D.toPs xs with
      | none => simp only [q, q2] at e; cases e
      | some ys => simp only [q, q2] at e; cases e; exact .cons (toP_dp fz h q) (toPs_dp fz t q2)
end
theorem repH_dp {K : PySem.W.Frag} {W : Wd} {H : Hp} (fz : Fz W H) {d : D} {v : V} {p : PyData} (h : RepH K W H v d) (e : d.toP = some p) : Dp K H v p := by
  rcases h with h | ⟨a, rfl, o, ho, r⟩
  · exact toP_dp fz h e
  · exact toP_dpO fz ho r e
theorem eq_scal {K : PySem.W.Frag} {W : Wd} {H : Hp} {v u : V} {a b : D} {c : Bool} (ra : RepH K W H v a) (rb : RepH K W H u b) (e : sEq a b = some c) : scal v u = true ∧ decide (v = u) = c := by
  cases a with
  | int i => cases b with
    | int j => cases e; rw [ra.int_inv, rb.int_inv]; exact ⟨rfl, by simp⟩
    | _ => cases e
  | str i => cases b with
    | str j => cases e; rw [ra.str_inv, rb.str_inv]; exact ⟨rfl, by simp⟩
    | _ => cases e
  | bl i => cases b with
    | bl j => cases e; rw [ra.bl_inv, rb.bl_inv]; exact ⟨rfl, by simp⟩
    | _ => cases e
  | _ => cases e
abbrev rEqA (K : PySem.W.Frag) : R2 := fun x y H Q => rEq x y H Q ∨ rEqD K x y H Q
abbrev rNeA (K : PySem.W.Frag) : R2 := fun x y H Q => rNe x y H Q ∨ rNeD K x y H Q
theorem eq_gen {K : PySem.W.Frag} {W : Wd} {H : Hp} {v u : V} {a b : D} {c : Bool} (fz : Fz W H) (ra : RepH K W H v a) (rb : RepH K W H u b) (e : eqB a b = some c) :
    (scal v u = true ∧ decide (v = u) = c) ∨ ∃ p q, Dp K H v p ∧ Dp K H u q ∧ SeqAt.shaped p = true ∧ SeqAt.shaped q = true ∧ PyData.eqv p q = c := by
  unfold eqB at e
  cases q : sEq a b with
  | some c' => simp only [q] at e; cases e; exact .inl (eq_scal ra rb q)
  | none =>
    simp only [q] at e
    unfold pEq at e
    cases q1 : a.toP with
    | none => simp only [q1] at e; cases e
    | some p =>
      cases q2 : b.toP with
      | none => simp only [q1, q2] at e; cases e
      | some p' =>
        simp only [q1, q2] at e
        by_cases h : SeqAt.shaped p = true ∧ SeqAt.shaped p' = true
        · rw [if_pos h] at e; cases e
          exact .inr ⟨p, p', repH_dp fz ra q1, repH_dp fz rb q2, h.1, h.2, rfl⟩
        · rw [if_neg h] at e; cases e
theorem od_eq {K : PySem.W.Frag} : OpD K (rEqA K) dEq := fun W H v u a b d Q fz ra rb e k => by
  unfold dEq at e
  cases q : eqB a b with
  | none => rw [q] at e; cases e
  | some c =>
    rw [q] at e; cases e
    have k' := k _ _ _ (.same (.bl c))
    rcases eq_gen fz ra rb q with ⟨h1, h2⟩ | ⟨p, p', h1, h2, h3, h4, h5⟩
    · exact .inl ⟨h1, by rw [h2]; exact k'⟩
    · exact .inr ⟨p, p', h1, h2, h3, h4, by rw [h5]; exact k'⟩
theorem od_ne {K : PySem.W.Frag} : OpD K (rNeA K) dNe := fun W H v u a b d Q fz ra rb e k => by
  unfold dNe at e
  cases q : eqB a b with
  | none => rw [q] at e; cases e
  | some c =>
    rw [q] at e; cases e
    have k' := k _ _ _ (.same (.bl (!c)))
    rcases eq_gen fz ra rb q with ⟨h1, h2⟩ | ⟨p, p', h1, h2, h3, h4, h5⟩
    · exact .inl ⟨h1, by rw [h2]; exact k'⟩
    · exact .inr ⟨p, p', h1, h2, h3, h4, by rw [h5]; exact k'⟩
theorem op_eqA {X : Cx} (hu : X.A.units + 64 < cLine) : OpR X (compareOp .Eq) (rEqA X.K) := op_eq.or (op_eqD hu)
theorem op_neA {X : Cx} (hu : X.A.units + 64 < cLine) : OpR X (compareOp .NotEq) (rNeA X.K) := op_ne.or (op_neD hu)
/-! is None -/
def dIsN : D → D → Option D
  | a, .non => match a with
    | .ref _ => none
    | a => some (.bl (match a with | .non => true | _ => false))
  | _, _ => none
def dNotN : D → D → Option D
  | a, .non => match a with
    | .ref _ => none
    | a => some (.bl (match a with | .non => false | _ => true))
  | _, _ => none
theorem isN_v {K : PySem.W.Frag} {W : Wd} {H : Hp} {v : V} {a : D} (h : RepH K W H v a) : decide (v = .non) = (match a with | .non => true | _ => false) := by
  rcases h with h | ⟨p, rfl, o, ho, r⟩
  · cases h with
    | obj h r => cases r <;> exact decide_eq_false (fun z => nomatch z)
    | _ => first | rfl | exact decide_eq_false (fun z => nomatch z)
  · cases r <;> exact decide_eq_false (fun z => nomatch z)
theorem od_isN {K : PySem.W.Frag} : OpD K (fun x y H Q => y = .non ∧ Q (.bl (decide (x = .non))) H) dIsN := fun W H v u a b d Q fz ra rb e k => by
  cases b with
  | non =>
    refine ⟨rb.non_inv, ?_⟩
    rw [isN_v ra]
    cases a <;> first | (cases e; exact k _ _ _ (.same (.bl _))) | (cases e)
  | _ => cases a <;> cases e
theorem od_notN {K : PySem.W.Frag} : OpD K (fun x y H Q => y = .non ∧ Q (.bl (!decide (x = .non))) H) dNotN := fun W H v u a b d Q fz ra rb e k => by
  cases b with
  | non =>
    refine ⟨rb.non_inv, ?_⟩
    rw [isN_v ra]
    cases a <;> first | (cases e; exact k _ _ _ (.same (.bl _))) | (cases e)
  | _ => cases a <;> cases e
end Vf
/-! Vf8: in, subscripts, slices, built-in functions and methods, dicts, locals and cells changed, raise. -/
namespace Vf
open PySem PySem.Spec PyProof.Rows L2

theorem RepH.scr_inv {K : PySem.W.Frag} {W : Wd} {H : Hp} {v : V} {is : List Int} (f : Fz W H) (h : RepH K W H v (.scr is)) : ∃ p, v = .ref p ∧ SqL K H p (is.map V.int) := by
  rcases h with h | ⟨p, rfl, o, e, r⟩
  · cases h with
    | obj h r => cases r
    | scr h => exact ⟨_, rfl, sqL_mono f h⟩
  · cases r
/-! ### in -/
def flatD : D → Bool
  | .non => true | .bl _ => true | .int _ => true | .str _ => true
  | _ => false
def eqF : D → D → Bool
  | .non, .non => true
  | .bl a, .bl b => a == b
  | .bl a, .int b => (if a then 1 else 0) == b
  | .int a, .bl b => a == (if b then 1 else 0)
  | .int a, .int b => a == b
  | .str a, .str b => a == b
  | _, _ => false
def inF (x : D) (xs : List D) : Bool := xs.any fun y => eqF y x
section
variable {K : PySem.W.Frag} {W : Wd} {H : Hp}
theorem flat_rep {G : Hp} {rho : List Addr} {v : V} {d : D} (h : Rep K G rho v d) (f : flatD d = true) : flatV v = true := by
  cases h with
  | obj h r => cases r <;> cases f
  | non => rfl
  | bl b => rfl
  | int b => rfl
  | str b => rfl
  | ref h => cases f
  | adr a => cases f
  | scr h => cases f
theorem eq_rep {G : Hp} {rho : List Addr} {v u : V} {d e : D} (h : Rep K G rho v d) (h' : Rep K G rho u e) (f : flatD d = true) (f' : flatD e = true) : eqV v u = eqF d e := by
  cases h with
  | obj h r => cases r <;> cases f
  | ref h => cases f
  | adr a => cases f
  | scr h => cases f
  | _ =>
    cases h' with
    | obj h r => cases r <;> cases f'
    | ref h => cases f'
    | adr a => cases f'
    | scr h => cases f'
    | _ => rfl
theorem flats_rep {G : Hp} {rho : List Addr} : ∀ {vs : List V} {ds : List D}, Reps K G rho vs ds → ds.all flatD = true → vs.all flatV = true
  | _, _, .nil, _ => rfl
  | _, _, .cons h t, f => by
    rw [List.all_cons, Bool.and_eq_true] at f ⊢
    exact ⟨flat_rep h f.1, flats_rep t f.2⟩
theorem in_rep {G : Hp} {rho : List Addr} {v : V} {d : D} (h : Rep K G rho v d) (f : flatD d = true) : ∀ {vs : List V} {ds : List D}, Reps K G rho vs ds → ds.all flatD = true → inV v vs = inF d ds
  | _, _, .nil, _ => rfl
  | _, _, .cons hh t, ff => by
    rw [List.all_cons, Bool.and_eq_true] at ff
    unfold inV inF
    rw [List.any_cons, List.any_cons, eq_rep hh h ff.1 f]
    exact congrArg _ (in_rep h f t ff.2)
theorem RepH.flat {v : V} {d : D} (h : RepH K W H v d) (f : flatD d = true) : Rep K W.G W.rho v d := by
  rcases h with h | ⟨p, rfl, o, ho, r⟩
  · exact h
  · cases r <;> cases f
end
def dInB (a : D) : D → Option Bool
  | .lst xs => if flatD a = true ∧ xs.all flatD = true then some (inF a xs) else none
  | .tup xs => if flatD a = true ∧ xs.all flatD = true then some (inF a xs) else none
  | _ => none
def dIn (a b : D) : Option D := (dInB a b).map .bl
def dNin (a b : D) : Option D := (dInB a b).map fun c => .bl (!c)
theorem in_gen {K : PySem.W.Frag} {W : Wd} {H : Hp} {v u : V} {a b : D} {c : Bool} (fz : Fz W H) (ra : RepH K W H v a) (rb : RepH K W H u b) (e : dInB a b = some c) :
    ∃ p xs, u = .ref p ∧ (SqL K H p xs ∨ SqT K H p xs) ∧ flatV v = true ∧ xs.all flatV = true ∧ inV v xs = c := by
  cases b with
  | lst xs =>
    have e' : (if flatD a = true ∧ xs.all flatD = true then some (inF a xs) else none) = some c := e
    by_cases h : flatD a = true ∧ xs.all flatD = true
    · rw [if_pos h] at e'; cases e'
      obtain ⟨p, vs, rfl, hp, r⟩ := rb.lst_inv fz
      have ra' := ra.flat h.1
      exact ⟨p, vs, rfl, .inl (.of hp), flat_rep ra' h.1, flats_rep r h.2, in_rep ra' h.1 r h.2⟩
    · rw [if_neg h] at e'; cases e'
  | tup xs =>
    have e' : (if flatD a = true ∧ xs.all flatD = true then some (inF a xs) else none) = some c := e
    by_cases h : flatD a = true ∧ xs.all flatD = true
    · rw [if_pos h] at e'; cases e'
      obtain ⟨p, vs, rfl, hp, r⟩ := rb.tup_inv fz
      have ra' := ra.flat h.1
      exact ⟨p, vs, rfl, .inr (.of hp), flat_rep ra' h.1, flats_rep r h.2, in_rep ra' h.1 r h.2⟩
    · rw [if_neg h] at e'; cases e'
  | _ => cases e
theorem od_in {K : PySem.W.Frag} : OpD K (rIn K false) dIn := fun W H v u a b d Q fz ra rb e k => by
  unfold dIn at e
  cases q : dInB a b with
  | none => rw [q] at e; cases e
  | some c =>
    rw [q] at e; cases e
    obtain ⟨p, xs, rfl, h1, h2, h3, h4⟩ := in_gen fz ra rb q
    refine ⟨p, xs, rfl, h1, h2, h3, ?_⟩
    show Q (.bl (if false = true then !inV v xs else inV v xs)) H
    rw [if_neg Bool.false_ne_true, h4]
    exact k _ _ _ (.same (.bl c))
theorem od_nin {K : PySem.W.Frag} : OpD K (rIn K true) dNin := fun W H v u a b d Q fz ra rb e k => by
  unfold dNin at e
  cases q : dInB a b with
  | none => rw [q] at e; cases e
  | some c =>
    rw [q] at e; cases e
    obtain ⟨p, xs, rfl, h1, h2, h3, h4⟩ := in_gen fz ra rb q
    refine ⟨p, xs, rfl, h1, h2, h3, ?_⟩
    show Q (.bl (if true = true then !inV v xs else inV v xs)) H
    rw [if_pos rfl, h4]
    exact k _ _ _ (.same (.bl (!c)))

/-! ### subscripts -/
def dIx : D → D → Option D
  | .lst xs, .int i => atI xs i
  | .tup xs, .int i => atI xs i
  | .str z, .int i => if z.length ≤ sizeLine then (atI z.cps.toList i).map fun c => .str ⟨#[c]⟩ else none
  | _, _ => none
theorem atI_rep {K : PySem.W.Frag} {G : Hp} {rho : List Addr} {vs : List V} {xs : List D} {i : Int} {d : D} (r : Reps K G rho vs xs) (e : atI xs i = some d) : ∃ v, atI vs i = some v ∧ Rep K G rho v d := by
  unfold atI at e ⊢
  rw [r.length]
  cases q : ixN xs.length i with
  | none => rw [q] at e; cases e
  | some j =>
    rw [q] at e
    exact r.get e
theorem od_ix {K : PySem.W.Frag} : OpD K (rIx K) dIx := fun W H v u a b d Q fz ra rb e k => by
  cases a with
  | lst xs =>
    cases b with
    | int i =>
      obtain ⟨p, vs, rfl, hp, r⟩ := ra.lst_inv fz
      obtain ⟨v, hv, rv⟩ := atI_rep r e
      exact .inl ⟨p, vs, i, v, rfl, rb.int_inv, .of hp, hv, k _ _ _ (.same rv)⟩
    | _ => cases e
  | tup xs =>
    cases b with
    | int i =>
      obtain ⟨p, vs, rfl, hp, r⟩ := ra.tup_inv fz
      obtain ⟨v, hv, rv⟩ := atI_rep r e
      exact .inr (.inl ⟨p, vs, i, v, rfl, rb.int_inv, .of hp, hv, k _ _ _ (.same rv)⟩)
    | _ => cases e
  | str z =>
    cases b with
    | int i =>
      have e' : (if z.length ≤ sizeLine then (atI z.cps.toList i).map fun c => D.str ⟨#[c]⟩ else none) = some d := e
      by_cases h : z.length ≤ sizeLine
      · rw [if_pos h] at e'
        cases q : atI z.cps.toList i with
        | none => rw [q] at e'; cases e'
        | some c =>
          rw [q] at e'; cases e'
          exact .inr (.inr ⟨z, i, c, ra.str_inv, rb.int_inv, h, q, k _ _ _ (.same (.str _))⟩)
      · rw [if_neg h] at e'; cases e'
    | _ => cases e
  | _ => cases e
/-- slices -/
def tpOf (C : Ctx) (m : M (Option Int)) : TO := fun σ H Q => ∃ B W L env S, Sim C.K B W L env S σ H ∧ Post C B L σ W (m env S) (fun d _ _ _ H' => Q d H')
abbrev EP' (X : Cx) (C : Ctx) (e : Option Expr) (m : M (Option Int)) : Prop := PO X e (tpOf C m)
def pNone : M (Option Int) := fun env S => .ok none env S
def pSome (m : M D) : M (Option Int) := fun env S => (m env S).bind fun d env S => match d with
  | .int i => .ok (some i) env S
  | _ => .stuck
theorem PO.imp {X : Cx} {e : Option Expr} {t t' : TO} (h : PO X e t) (k : ∀ σ H Q, t' σ H Q → t σ H Q) : PO X e t' := ⟨fun pins s σ H Q I q => h.run pins s σ H Q I (k σ H Q q)⟩
def cutD (xs : List D) (lo hi : Option Int) : List D := (xs.drop (HT.sIx xs.length 0 lo)).take (HT.sIx xs.length xs.length hi - HT.sIx xs.length 0 lo)
def dSl (lo hi : Option Int) : D → Option D
  | .lst xs => some (.lst (cutD xs lo hi))
  | .tup xs => if ¬ (HT.sIx xs.length 0 lo = 0 ∧ HT.sIx xs.length xs.length hi = xs.length) then some (.tup (cutD xs lo hi)) else none
  | .str z => if z.length ≤ sizeLine then some (.str (cutS z lo hi)) else none
  | _ => none
def mSl (mo : M Opd) (lo hi : M (Option Int)) : M D := fun env S => (mo env S).bind fun o env S => (lo env S).bind fun l env S => (hi env S).bind fun h env S => match resO env S o with
  | some x => Res.lift (dSl l h x) env S
  | none => .stuck
section
variable {X : Cx} {C : Ctx} {k : Nat} {m : M D} {mo : M Opd} {ml mh : M (Option Int)} {e : Expr} {lo hi : Option Expr} {pos p2 : Pos}
theorem p_none : EP' X C none pNone := PO.imp po_none fun σ H Q ⟨B, W, L, env, S, m, p⟩ => p W H (Wd.Le.refl W) m
theorem p_some (h : E X C e m) : EP' X C (some e) (pSome m) := PO.imp (po_some h) fun σ H Q ⟨B, W, L, env, S, m, p⟩ => ⟨B, W, L, env, S, m, (Post.bind p).mono fun d W' env' S' H' le m' q v r => by
  cases d with
  | int i => exact ⟨i, r.int_inv, q W' H' (Wd.Le.refl W') m'⟩
  | _ => exact q.elim⟩
theorem Reps.cut {K : PySem.W.Frag} {G : Hp} {rho : List Addr} {vs : List V} {xs : List D} (r : Reps K G rho vs xs) (lo hi : Option Int) : Reps K G rho (cutV vs lo hi) (cutD xs lo hi) := by
  unfold cutV cutD
  rw [r.length]
  exact (r.drop _).take _
theorem e_sl (hK : X.K = C.K) (he : EO X C e mo) (hl : EP' X C lo ml) (hh : EP' X C hi mh) : E X C (.Subscript e (.Slice lo hi none p2) pos) (mSl mo ml mh) := by
  refine PE.imp (pe_slice (sl_list.or (sl_tup.or sl_str)) he hl hh) fun σ H Q ⟨B, W, L, env, S, m, p⟩ => ?_
  refine ⟨B, W, L, env, S, m, (Post.bind p).mono fun o W1 env1 S1 H1 le1 m1 q1 v r => ?_⟩
  refine ⟨B, W1, L, env1, S1, m1, (Post.bind q1).mono fun l W2 env2 S2 H2 le2 m2 q2 => ?_⟩
  refine ⟨B, W2, L, env2, S2, m2, (Post.bind q2).mono fun h W3 env3 S3 H3 le3 m3 q3 => ?_⟩
  cases q : resO env3 S3 o with
  | none => simp only [q] at q3; exact q3.elim
  | some x =>
    simp only [q] at q3
    have rx := m3.res (r.mono (le2.trans le3)) q
    obtain ⟨d, e, hy⟩ := post_yield m3 q3
    rw [hK]
    cases x with
    | lst xs =>
      cases e
      obtain ⟨p, vs, rfl, hp, rr⟩ := rx.lst_inv m3.s.ex
      exact .inl ⟨p, vs, rfl, .of hp, fun p0 h0 => hy _ _ _ (.new h0 (.lst (rr.cut l h)))⟩
    | tup xs =>
      have e' : (if ¬ (HT.sIx xs.length 0 l = 0 ∧ HT.sIx xs.length xs.length h = xs.length) then some (D.tup (cutD xs l h)) else none) = some d := e
      by_cases hc : ¬ (HT.sIx xs.length 0 l = 0 ∧ HT.sIx xs.length xs.length h = xs.length)
      · rw [if_pos hc] at e'; cases e'
        obtain ⟨p, vs, rfl, hp, rr⟩ := rx.tup_inv m3.s.ex
        exact .inr (.inl ⟨p, vs, rfl, .of hp, by rw [rr.length]; exact hc, fun p0 h0 => hy _ _ _ (.new h0 (.tup (rr.cut l h)))⟩)
      · rw [if_neg hc] at e'; cases e'
    | str z =>
      have e' : (if z.length ≤ sizeLine then some (D.str (cutS z l h)) else none) = some d := e
      by_cases hc : z.length ≤ sizeLine
      · rw [if_pos hc] at e'; cases e'
        exact .inr (.inr ⟨z, rx.str_inv, hc, hy _ _ _ (.same (.str _))⟩)
      · rw [if_neg hc] at e'; cases e'
    | _ => cases e
end

/-! ### built-in functions -/
def CallD (K : PySem.W.Frag) (r : List V → Hp → VK → Prop) (f : List D → Option D) : Prop := ∀ (W : Wd) (H : Hp) (vs : List V) (ds : List D) (d : D) (Q : VK), Fz W H → RepHs K W H vs ds → f ds = some d → (∀ v' H' W', Yield K W H d v' H' W' → Q v' H') → r vs H Q
def NewD (K : PySem.W.Frag) (r : List V → Hp → VK → Prop) (f : List D → Option D) : Prop := ∀ (W : Wd) (H : Hp) (vs : List V) (ds : List D) (d : D) (Q : VK), Fz W H → RepHs K W H vs ds → f ds = some d → (∀ p o, H p = none → RepO K W.G W.rho o d → Q (.ref p) (upd H p o)) → r vs H Q
def mB (f : List D → Option D) (ma : M (List Opd)) : M D := fun env S => (ma env S).bind fun os env S => match resL env S os with
  | some ds => Res.lift (f ds) env S
  | none => .stuck
section
variable {X : Cx} {C : Ctx} {x : Str} {id T : String} {r : List V → Hp → VK → Prop} {f : List D → Option D} {ma : M (List Opd)} {e : Expr} {es : List Expr} {p pos : Pos}
theorem tCB_of (hr : CallD C.K r f) {σ : St} {H : Hp} {Q : VK} (h : teOf C (mB f ma) σ H Q) : tCB r (taoOf C ma) σ H Q := by
  obtain ⟨B, W, L, env, S, m, p⟩ := h
  refine ⟨B, W, L, env, S, m, (Post.bind p).mono fun os W' env' S' H' le m' q vs rs => ?_⟩
  cases e : resL env' S' os with
  | none => simp only [e] at q; exact q.elim
  | some ds =>
    simp only [e] at q
    obtain ⟨d, e2, hy⟩ := post_yield m' q
    exact hr W' H' vs ds d Q m'.s.ex (m'.resL rs e) e2 hy
theorem e_callB (hc : CallR X (.builtin id) r) (hr : CallD C.K r f) (hm : X.mg x = none) (hv : bootBuiltins x = some (.builtin id)) (ha : EAO X C (e :: es) ma) (hg : Gl X x := by rfl) (hn : x ≠ "__name__" := by decide) (hd : (x == ("__debug__" : Str)) = false := by decide)
    (he : starEach (e :: es) X.env = (false, eval e X.env) :: starEach es X.env := by rfl) (hpl : (backTo pos (starEach es X.env)).any (·.1) = false := by rfl) : E X C (.Call (.Name x p) (e :: es) [] pos) (mB f ma) :=
  PE.imp (pe_callB hc hg hm hv ha (hn := hn) (hdb := hd) (he := he) (hpl := hpl)) fun σ H Q h => tCB_of hr h
theorem e_callTy (hc : CallR X (.type T) r) (hr : CallD C.K r f) (hm : X.mg x = none) (hv : bootBuiltins x = some (.type T)) (ha : EAO X C (e :: es) ma) (hg : Gl X x := by rfl) (hn : x ≠ "__name__" := by decide) (hd : (x == ("__debug__" : Str)) = false := by decide)
    (he : starEach (e :: es) X.env = (false, eval e X.env) :: starEach es X.env := by rfl) (hpl : (backTo pos (starEach es X.env)).any (·.1) = false := by rfl) : E X C (.Call (.Name x p) (e :: es) [] pos) (mB f ma) :=
  PE.imp (pe_callTy hc hg hm hv ha (hn := hn) (hdb := hd) (he := he) (hpl := hpl)) fun σ H Q h => tCB_of hr h
theorem n_callTy (hc : CallR X (.type T) r) (hr : NewD C.K r f) (hm : X.mg x = none) (hv : bootBuiltins x = some (.type T)) (ha : EAO X C (e :: es) ma) (hg : Gl X x := by rfl) (hn : x ≠ "__name__" := by decide) (hd : (x == ("__debug__" : Str)) = false := by decide)
    (he : starEach (e :: es) X.env = (false, eval e X.env) :: starEach es X.env := by rfl) (hpl : (backTo pos (starEach es X.env)).any (·.1) = false := by rfl) : EN X C (.Call (.Name x p) (e :: es) [] pos) (mB f ma) := by
  refine PE.imp (pe_callTy hc hg hm hv ha (hn := hn) (hdb := hd) (he := he) (hpl := hpl)) fun σ H Q ⟨B, W, L, env, S, m, p⟩ => ?_
  refine ⟨B, W, L, env, S, m, (Post.bind p).mono fun os W' env' S' H' le m' q vs rs => ?_⟩
  cases e : resL env' S' os with
  | none => simp only [e] at q; exact q.elim
  | some ds =>
    simp only [e] at q
    cases e2 : f ds with
    | none => rw [e2] at q; exact q.elim
    | some d =>
      rw [e2] at q
      refine hr W' H' vs ds d Q m'.s.ex (m'.resL rs e) e2 fun p0 o h0 ro => ?_
      obtain ⟨m2, w⟩ := m'.own h0 ro
      exact q W' _ (Wd.Le.refl W') m2 p0 w
end
def fLen : List D → Option D
  | [.scr is] => some (.int is.length)
  | [.lst xs] => some (.int xs.length)
  | [.tup xs] => some (.int xs.length)
  | [.str z] => if z.length ≤ sizeLine then some (.int z.length) else none
  | [.dk ks _] => some (.int ks.length)
  | _ => none
def fInt : List D → Option D
  | [.int i] => some (.int i)
  | [.bl b] => some (.int (if b then 1 else 0))
  | _ => none
def fList : List D → Option D
  | [.scr is] => some (.lst (is.map .int))
  | [.lst xs] => some (.lst xs)
  | [.tup xs] => some (.lst xs)
  | _ => none
def fTuple : List D → Option D
  | [.lst xs] => some (.tup xs)
  | _ => none
def intsOf : List D → Option (List Int)
  | [] => some []
  | .int i :: xs => (intsOf xs).map (i :: ·)
  | _ :: _ => none
theorem intsOf_eq : ∀ {xs : List D} {is : List Int}, intsOf xs = some is → xs = is.map D.int
  | [], _, e => by cases e; rfl
  | x :: xs, is, e => by
    cases x with
    | int i =>
      have e' : (intsOf xs).map (i :: ·) = some is := e
      cases q : intsOf xs with
      | none => rw [q] at e'; cases e'
      | some js => rw [q] at e'; cases e'; rw [intsOf_eq q]; rfl
    | _ => cases e
theorem intsOf_map (is : List Int) : intsOf (is.map D.int) = some is := by
  induction is with
  | nil => rfl
  | cons i is ih =>
    show (intsOf (is.map D.int)).map (i :: ·) = _
    rw [ih]; rfl
def fSum : List D → Option D
  | [.lst xs] => (intsOf xs).map fun is => .int is.sum
  | _ => none
def maxI : List Int → Int
  | [] => 0
  | [x] => x
  | x :: y :: r => max x (maxI (y :: r))
theorem maxI_mem : ∀ {l : List Int}, l ≠ [] → maxI l ∈ l ∧ ∀ y ∈ l, y ≤ maxI l
  | [], h => absurd rfl h
  | [x], _ => by simp [maxI]
  | x :: y :: r, _ => by
    obtain ⟨h1, h2⟩ := maxI_mem (l := y :: r) (by simp)
    have e : maxI (x :: y :: r) = max x (maxI (y :: r)) := rfl
    refine ⟨?_, fun z hz => ?_⟩
    · rw [e]
      by_cases h : x ≤ maxI (y :: r)
      · rw [Int.max_eq_right h]; exact List.mem_cons_of_mem _ h1
      · rw [Int.max_eq_left (by omega)]; exact List.mem_cons_self
    · rw [e]
      rcases List.mem_cons.mp hz with q | q
      · omega
      · have := h2 z q; omega
def fMax : List D → Option D
  | [.lst xs] => match intsOf xs with
    | some [] => none
    | some is => some (.int (maxI is))
    | none => none
  | _ => none
section
variable {K : PySem.W.Frag}
theorem cd_len : CallD K (fun xs H Q => (∃ x n, xs = [x] ∧ LenV K x H n ∧ Q (.int n) H) ∨ ∃ a kvs, xs = [V.ref a] ∧ H a = some (.dK kvs) ∧ Q (.int kvs.length) H) fLen := fun W H vs ds d Q fz rs e k => by
  match ds, rs, e with
  | [.scr is], rs, e =>
    cases e
    obtain ⟨v, rfl, r⟩ := rs.one
    obtain ⟨p, rfl, hp⟩ := r.scr_inv fz
    exact .inl ⟨_, (is.map V.int).length, rfl, .inl ⟨_, hp, rfl⟩, by rw [List.length_map]; exact k _ _ _ (.same (.int _))⟩
  | [.lst xs], rs, e =>
    cases e
    obtain ⟨v, rfl, r⟩ := rs.one
    obtain ⟨p, ws, rfl, hp, rr⟩ := r.lst_inv fz
    exact .inl ⟨_, ws.length, rfl, .inl ⟨ws, .of hp, rfl⟩, by rw [rr.length]; exact k _ _ _ (.same (.int _))⟩
  | [.tup xs], rs, e =>
    cases e
    obtain ⟨v, rfl, r⟩ := rs.one
    obtain ⟨p, ws, rfl, hp, rr⟩ := r.tup_inv fz
    exact .inl ⟨_, ws.length, rfl, .inr ⟨ws, .of hp, rfl⟩, by rw [rr.length]; exact k _ _ _ (.same (.int _))⟩
  | [.str z], rs, e =>
    have e' : (if z.length ≤ sizeLine then some (D.int z.length) else none) = some d := e
    by_cases h : z.length ≤ sizeLine
    · rw [if_pos h] at e'; cases e'
      obtain ⟨v, rfl, r⟩ := rs.one
      rw [r.str_inv]
      exact .inl ⟨_, z.length, rfl, ⟨h, rfl⟩, k _ _ _ (.same (.int _))⟩
    · rw [if_neg h] at e'; cases e'
  | [.dk ks xs], rs, e =>
    cases e
    obtain ⟨v, rfl, r⟩ := rs.one
    obtain ⟨p, ws, rfl, hp, hl, rr⟩ := r.dk_inv fz
    refine .inr ⟨p, _, rfl, hp, ?_⟩
    have e2 : (ks.zip ws).length = ks.length := by rw [List.length_zip]; omega
    rw [e2]
    exact k _ _ _ (.same (.int _))
theorem cd_int : CallD K (fun xs H Q => (∃ i, xs = [.int i] ∧ Q (.int i) H) ∨ ∃ k, xs = [.bl k] ∧ Q (.int (if k then 1 else 0)) H) fInt := fun W H vs ds d Q fz rs e k => by
  match ds, rs, e with
  | [.int i], rs, e =>
    cases e
    obtain ⟨v, rfl, r⟩ := rs.one
    rw [r.int_inv]
    exact .inl ⟨i, rfl, k _ _ _ (.same (.int _))⟩
  | [.bl b], rs, e =>
    cases e
    obtain ⟨v, rfl, r⟩ := rs.one
    rw [r.bl_inv]
    exact .inr ⟨b, rfl, k _ _ _ (.same (.int _))⟩
theorem nd_list : NewD K (fun xs H Q => ∃ p ys, xs = [.ref p] ∧ (SqL K H p ys ∨ SqT K H p ys) ∧ ∀ l, H l = none → Q (.ref l) (upd H l (.lst ys))) fList := fun W H vs ds d Q fz rs e k => by
  match ds, rs, e with
  | [.scr is], rs, e =>
    cases e
    obtain ⟨v, rfl, r⟩ := rs.one
    obtain ⟨p, rfl, hp⟩ := r.scr_inv fz
    refine ⟨p, _, rfl, .inl hp, fun l hl => k l _ hl (.lst ?_)⟩
    exact Reps.ints is
  | [.lst xs], rs, e =>
    cases e
    obtain ⟨v, rfl, r⟩ := rs.one
    obtain ⟨p, ws, rfl, hp, rr⟩ := r.lst_inv fz
    exact ⟨p, ws, rfl, .inl (.of hp), fun l hl => k l _ hl (.lst rr)⟩
  | [.tup xs], rs, e =>
    cases e
    obtain ⟨v, rfl, r⟩ := rs.one
    obtain ⟨p, ws, rfl, hp, rr⟩ := r.tup_inv fz
    exact ⟨p, ws, rfl, .inr (.of hp), fun l hl => k l _ hl (.lst rr)⟩
theorem NewD.call {r : List V → Hp → VK → Prop} {f : List D → Option D} (h : NewD K r f) : CallD K r f := fun W H vs ds d Q fz rs e k => h W H vs ds d Q fz rs e fun p o hp ro => k _ _ _ (.new hp ro)
theorem cd_tuple : CallD K (fun xs H Q => ∃ p ys, xs = [.ref p] ∧ ((SqL K H p ys ∧ ∀ l, H l = none → Q (.ref l) (upd H l (.tup ys))) ∨ (SqT K H p ys ∧ Q (.ref p) H))) fTuple := fun W H vs ds d Q fz rs e k => by
  match ds, rs, e with
  | [.lst xs], rs, e =>
    cases e
    obtain ⟨v, rfl, r⟩ := rs.one
    obtain ⟨p, ws, rfl, hp, rr⟩ := r.lst_inv fz
    exact ⟨p, ws, rfl, .inl ⟨.of hp, fun l hl => k _ _ _ (.new hl (.tup rr))⟩⟩
theorem cd_sum : CallD K (rSum K) fSum := fun W H vs ds d Q fz rs e k => by
  match ds, rs, e with
  | [.lst xs], rs, e =>
    have e' : (intsOf xs).map (fun is => D.int is.sum) = some d := e
    cases q : intsOf xs with
    | none => rw [q] at e'; cases e'
    | some is =>
      rw [q] at e'; cases e'
      obtain ⟨v, rfl, r⟩ := rs.one
      obtain ⟨p, ws, rfl, hp, rr⟩ := r.lst_inv fz
      rw [intsOf_eq q] at rr
      have := rr.of_ints
      subst this
      exact ⟨p, is, rfl, .of hp, k _ _ _ (.same (.int _))⟩
theorem cd_max : CallD K (rMax K) fMax := fun W H vs ds d Q fz rs e k => by
  match ds, rs, e with
  | [.lst xs], rs, e =>
    have e' : (match intsOf xs with | some [] => none | some is => some (D.int (maxI is)) | none => none) = some d := e
    cases q : intsOf xs with
    | none => rw [q] at e'; cases e'
    | some is =>
      rw [q] at e'
      cases is with
      | nil => cases e'
      | cons i is =>
        cases e'
        obtain ⟨v, rfl, r⟩ := rs.one
        obtain ⟨p, ws, rfl, hp, rr⟩ := r.lst_inv fz
        rw [intsOf_eq q] at rr
        have := rr.of_ints
        subst this
        refine ⟨p, i :: is, rfl, .of hp, by simp, fun m hm hle => ?_⟩
        obtain ⟨h1, h2⟩ := maxI_mem (l := i :: is) (by simp)
        have e2 : m = maxI (i :: is) := by
          have a := hle _ h1
          have b := h2 _ hm
          omega
        rw [e2]
        exact k _ _ _ (.same (.int _))
end
end Vf
/-! Vf9: cells changed; dicts; text methods; own `in`; raise. -/
namespace Vf
open PySem PySem.Spec PyProof.Rows L2

section
variable {K : PySem.W.Frag} {C : Bs} {W W' : Wd} {L : Nat → Addr} {env : List Slot} {S : List D} {σ : St} {H : Hp}
theorem nodup_get {α : Type} {l : List α} (h : l.Nodup) {i j : Nat} {a : α} (e1 : l[i]? = some a) (e2 : l[j]? = some a) : i = j := by
  obtain ⟨h1, q1⟩ := List.getElem?_eq_some_iff.mp e1
  obtain ⟨h2, q2⟩ := List.getElem?_eq_some_iff.mp e2
  rcases Nat.lt_trichotomy i j with z | z | z
  · exact absurd (q1.trans q2.symm) (List.pairwise_iff_getElem.mp h i j h1 h2 z)
  · exact z
  · exact absurd (q2.trans q1.symm) (List.pairwise_iff_getElem.mp h j i h2 h1 z)
/-- a cell of S is changed -/
theorem Sim.mutS (m : Sim K C W L env S σ H) {n : Nat} {p : Addr} {d' : D} {o' : HO} (hp : W.rho[n]? = some p) (r : RepO K W.G W.rho o' d') : Sim K C W L env (S.set n d') σ (upd H p o') := by
  have hm : p ∈ W.rho := List.mem_of_getElem? hp
  have g := m.s.gc p hm
  have h0 : ∀ o, p ∉ C.W0.rho → C.H0 p ≠ some o := fun o hb e => by
    by_cases hl : C.W0.rho.length ≤ n
    · have := m.newrho n p hl hp
      rw [this] at e; cases e
    · have hl' : n < C.W0.rho.length := by omega
      have h2 := pre_get m.le.r (List.getElem?_eq_getElem hl')
      rw [hp] at h2
      exact hb (by rw [Option.some.inj h2]; exact List.getElem_mem hl')
  refine ⟨⟨fun a u q => ?_, by rw [List.length_set]; exact m.s.len, m.s.nd, fun j c q x1 x2 => ?_, m.s.gc⟩, m.val, fun i d e => ?_, m.inj, m.le, m.new, m.newrho, fun a u q ha => ?_, m.elen, m.pin⟩
  · rw [upd_ne (fun z => by rw [z, g] at q; cases q)]; exact m.s.ex a u q
  · by_cases z : n = j
    · subst z
      rw [hp] at x2; cases x2
      have hs : n < S.length := by rw [← m.s.len]; exact (List.getElem?_eq_some_iff.mp hp).1
      rw [List.getElem?_set_self hs] at x1; cases x1
      exact ⟨o', upd_same, r⟩
    · rw [List.getElem?_set_ne z] at x1
      exact (m.s.cell j c q x1 x2).mono (Wd.Le.refl W) (upd_ne fun w => z (nodup_get m.s.nd hp (by rw [← w]; exact x2)))
  · obtain ⟨e1, c, g', nr', h0'⟩ := m.loc i d e
    exact ⟨e1, c.mono (Wd.Le.refl W) (upd_ne fun w => nr' (by rw [w]; exact hm)), g', nr', h0'⟩
  · rw [upd_ne (fun z => by subst z; exact h0 u ha q)]; exact m.kept a u q ha
/-- an own object becomes a cell -/
theorem Sim.newCell (m : Sim K C W L env S σ H) {p : Addr} {d : D} (w : Own K C W L env H p d) : W.Le ⟨W.G, W.rho ++ [p]⟩ ∧ Sim K C ⟨W.G, W.rho ++ [p]⟩ L env (S ++ [d]) σ H ∧ Rep K W.G (W.rho ++ [p]) (.ref p) (.ref S.length) := by
  have le : W.Le ⟨W.G, W.rho ++ [p]⟩ := ⟨fun _ _ h => h, List.prefix_append _ _⟩
  have hl := m.s.len
  refine ⟨le, ⟨⟨m.s.ex, by rw [List.length_append, List.length_append, hl]; rfl, ?_, fun n c q e1 e2 => ?_, fun q hq => ?_⟩, fun i d' e => ?_, fun i d' e => ?_, m.inj, m.le.trans le, m.new, fun n q hn e => ?_, m.kept, m.elen, m.pin⟩, .ref ?_⟩
  · refine List.nodup_append.mpr ⟨m.s.nd, by simp, fun a ha b hb => ?_⟩
    rw [List.mem_singleton] at hb
    subst hb
    exact fun z => w.nr (by rw [← z]; exact ha)
  · by_cases hn : n < S.length
    · rw [List.getElem?_append_left hn] at e1
      have e2' : (W.rho ++ [p])[n]? = some q := e2
      rw [List.getElem?_append_left (by rw [hl]; exact hn)] at e2'
      exact (m.s.cell n c q e1 e2').mono le rfl
    · have e2' : (W.rho ++ [p])[n]? = some q := e2
      rw [List.getElem?_append_right (by omega)] at e1
      rw [List.getElem?_append_right (by omega)] at e2'
      have h1 : n - S.length = 0 := by
        have := (List.getElem?_eq_some_iff.mp e1).1
        simp at this; exact this
      have h2 : n - W.rho.length = 0 := by rw [hl]; exact h1
      rw [h1] at e1
      rw [h2] at e2'
      cases e1; cases e2'
      exact w.at_.mono le rfl
  · rcases List.mem_append.mp hq with h | h
    · exact m.s.gc q h
    · rw [List.mem_singleton] at h; subst h; exact w.g
  · obtain ⟨v, e1, r⟩ := m.val i d' e
    exact ⟨v, e1, r.mono le⟩
  · obtain ⟨e1, c, g, nr, h0⟩ := m.loc i d' e
    refine ⟨e1, c.mono le rfl, g, fun z => ?_, h0⟩
    rcases List.mem_append.mp z with h | h
    · exact nr h
    · rw [List.mem_singleton] at h; exact w.nl i d' e h
  · have e' : (W.rho ++ [p])[n]? = some q := e
    by_cases h : n < W.rho.length
    · rw [List.getElem?_append_left h] at e'
      exact m.newrho n q hn e'
    · rw [List.getElem?_append_right (by omega)] at e'
      have h2 : n - W.rho.length = 0 := by
        have := (List.getElem?_eq_some_iff.mp e').1
        simp at this; exact this
      rw [h2] at e'
      cases e'
      exact w.h0
  · rw [← hl, List.getElem?_append_right (Nat.le_refl _)]; simp
end
/-- a real cell -/
def cellO (env : List Slot) (S : List D) : Opd → Option D
  | .d (.ref n) => S[n]?
  | .l i => locAt env i
  | _ => none
def setE (env : List Slot) (o : Opd) (d : D) : List Slot := match o with
  | .l i => env.set i (.loc d)
  | _ => env
def setS (S : List D) (o : Opd) (d : D) : List D := match o with
  | .d (.ref n) => S.set n d
  | _ => S
section
variable {K : PySem.W.Frag} {B : Bs} {W W' : Wd} {L : Nat → Addr} {env : List Slot} {S : List D} {σ : St} {H : Hp}
theorem Sim.mutO (m : Sim K B W L env S σ H) {v : V} {o : Opd} {d : D} (r : RepP K W L v o) (e : cellO env S o = some d) :
    ∃ p oo, v = .ref p ∧ H p = some oo ∧ RepO K W.G W.rho oo d ∧ ∀ o' d', RepO K W.G W.rho o' d' → Sim K B W L (setE env o d') (setS S o d') σ (upd H p o') := by
  cases o with
  | d x =>
    cases x with
    | ref n =>
      obtain ⟨p, rfl, hp⟩ := Rep.ref_inv (show Rep K W.G W.rho v (.ref n) from r)
      obtain ⟨oo, ho, ro⟩ := m.s.cell n d p e hp
      exact ⟨p, oo, rfl, ho, ro, fun o' d' r' => m.mutS hp r'⟩
    | _ => cases e
  | l i =>
    have hv : v = .ref (L i) := r
    have e' := locAt_eq (show locAt env i = some d from e)
    obtain ⟨_, ⟨oo, ho, ro⟩, _⟩ := m.loc i d e'
    exact ⟨L i, oo, hv, ho, ro, fun o' d' r' => m.mut e' r'⟩
end
def mRef (m : M D) : M D := fun env S => (m env S).bind fun d env S => .ok (.ref S.length) env (S ++ [d])
theorem e_ref {X : Cx} {C : Ctx} {e : Expr} {m : M D} (h : EN X C e m) : E X C e (mRef m) := by
  refine PE.imp h fun σ H Q ⟨B, W, L, env, S, m, p⟩ => ⟨B, W, L, env, S, m, (Post.bind p).mono fun d W' env' S' H' le m' q p0 w => ?_⟩
  obtain ⟨l2, m2, r2⟩ := m'.newCell w
  exact q _ H' l2 m2 _ r2

/-! ### methods that change a list -/
def MutD (K : PySem.W.Frag) (r : V → List V → Hp → VK → Prop) (f : D → List D → Option (D × D)) : Prop :=
  ∀ (W : Wd) (H : Hp) (p : Addr) (o : HO) (d : D) (ds : List D) (vs : List V) (d' x : D) (Q : VK), H p = some o → RepO K W.G W.rho o d → Reps K W.G W.rho vs ds → f d ds = some (d', x) →
    (∀ v o', RepO K W.G W.rho o' d' → Rep K W.G W.rho v x → Q v (upd H p o')) → r (.ref p) vs H Q
def isLst : Option D → Bool
  | some (.lst _) => true
  | _ => false
theorem isLst_some {x : Option D} (h : isLst x = true) : ∃ xs, x = some (.lst xs) := by
  cases x with
  | none => cases h
  | some d => cases d <;> first | exact ⟨_, rfl⟩ | cases h
def mutK (f : D → List D → Option (D × D)) (o : Opd) (ds : List D) : M D := fun env S => match cellO env S o with
  | some d => (match f d ds with
    | some (d', x) => .ok x (setE env o d') (setS S o d')
    | none => .stuck)
  | none => .stuck
def mMut (f : D → List D → Option (D × D)) (mo : M Opd) (ma : M (List D)) : M D := fun env S => (mo env S).bind fun o env S => if isLst (cellO env S o) = true then (ma env S).bind fun ds env S => mutK f o ds env S else .stuck
def mMut0 (f : D → List D → Option (D × D)) (mo : M Opd) : M D := fun env S => (mo env S).bind fun o env S => if isLst (cellO env S o) = true then mutK f o [] env S else .stuck
section
variable {X : Cx} {C : Ctx} {r : V → List V → Hp → VK → Prop} {f : D → List D → Option (D × D)} {mo : M Opd} {ma : M (List D)} {o e : Expr} {es : List Expr} {name : Str} {id : String} {apos cpos : Pos}
theorem mutK_of (hr : MutD C.K r f) {B : Bs} {W : Wd} {L : Nat → Addr} {env : List Slot} {S : List D} {σ : St} {H : Hp} {Q : VK} {v : V} {x : Opd} {vs : List V} {ds : List D} (m : Sim C.K B W L env S σ H) (rv : RepP C.K W L v x) (rs : Reps C.K W.G W.rho vs ds)
    (p : Post C B L σ W (mutK f x ds env S) (fun d W' _ _ H' => ∀ v, Rep C.K W'.G W'.rho v d → Q v H')) : r v vs H Q := by
  unfold mutK at p
  cases q : cellO env S x with
  | none => simp only [q] at p; exact p.elim
  | some d =>
    simp only [q] at p
    cases q2 : f d ds with
    | none => simp only [q2] at p; exact p.elim
    | some y =>
      obtain ⟨d', y⟩ := y
      simp only [q2] at p
      obtain ⟨a, oo, rfl, ho, ro, k⟩ := m.mutO rv q
      exact hr W H a oo d ds vs d' y Q ho ro rs q2 fun u o' r' ru => p W _ (Wd.Le.refl W) (k o' d' r') u ru
theorem lst_ty {B : Bs} {W : Wd} {L : Nat → Addr} {env : List Slot} {S : List D} {σ : St} {H : Hp} {v : V} {x : Opd} (m : Sim C.K B W L env S σ H) (rv : RepP C.K W L v x) (h : isLst (cellO env S x) = true) : tyV C.K "list" v H := by
  obtain ⟨xs, e⟩ := isLst_some h
  obtain ⟨a, oo, rfl, ho, ro, _⟩ := m.mutO rv e
  cases ro with
  | lst r => exact .inl ⟨rfl, _, .of ho⟩
theorem e_mut (slot : PySem.Slot "list" name id) (hty : typeOf (.builtin id) = pure (.type "method_descriptor")) (hm : MtR X id r) (hr : MutD C.K r f) (hK : X.K = C.K) (ho : EO X C o mo) (ha : EA X C (e :: es) ma)
    (hbase : attributeBase o name X.env (eval o X.env) = eval o X.env := by rfl)
    (hfew : ((backTo cpos (starEach (e :: es) X.env)).all (fun x => !x.1) && (backToKw cpos (keywordEach [] X.env)).all (fun x => x.1.isSome)
      && decide ((e :: es).length + ([] : List Keyword).length + (if ([] : List Keyword).isEmpty then 0 else 1) < 30)) = true := by rfl)
    (hline : (apos.endLine == cpos.line) = true := by rfl) (hs : starEach (e :: es) X.env = (false, eval e X.env) :: starEach es X.env := by rfl) (hplain : (backTo cpos (starEach es X.env)).any (·.1) = false := by rfl) :
    E X C (.Call (.Attribute o name apos) (e :: es) [] cpos) (mMut f mo ma) := by
  refine PE.imp (pe_bm F.plainAttrs_list slot hty hm ho ha hbase hfew hline hs hplain) fun σ H Q ⟨B, W, L, env, S, m, p⟩ => ?_
  refine ⟨B, W, L, env, S, m, (Post.bind p).mono fun x W1 env1 S1 H1 le1 m1 p1 v rv => ?_⟩
  by_cases hl : isLst (cellO env1 S1 x) = true
  · rw [if_pos hl] at p1
    rw [hK]
    exact ⟨lst_ty m1 rv hl, B, W1, L, env1, S1, m1, (Post.bind p1).mono fun ds W2 env2 S2 H2 le2 m2 p2 vs rs => mutK_of hr m2 (rv.mono le2) rs p2⟩
  · rw [if_neg hl] at p1; exact p1.elim
theorem e_mut0 (slot : PySem.Slot "list" name id) (hty : typeOf (.builtin id) = pure (.type "method_descriptor")) (hm : MtR X id r) (hr : MutD C.K r f) (hK : X.K = C.K) (ho : EO X C o mo)
    (hbase : attributeBase o name X.env (eval o X.env) = eval o X.env := by rfl) (hline : (apos.endLine == cpos.line) = true := by rfl) :
    E X C (.Call (.Attribute o name apos) [] [] cpos) (mMut0 f mo) := by
  refine PE.imp (pe_bm0 F.plainAttrs_list slot hty hm ho hbase hline) fun σ H Q ⟨B, W, L, env, S, m, p⟩ => ?_
  refine ⟨B, W, L, env, S, m, (Post.bind p).mono fun x W1 env1 S1 H1 le1 m1 p1 v rv => ?_⟩
  by_cases hl : isLst (cellO env1 S1 x) = true
  · rw [if_pos hl] at p1
    rw [hK]
    exact ⟨lst_ty m1 rv hl, mutK_of hr m1 rv .nil p1⟩
  · rw [if_neg hl] at p1; exact p1.elim
end
def fApp : D → List D → Option (D × D)
  | .lst xs, [y] => if xs.length < sizeLine then some (.lst (xs ++ [y]), .non) else none
  | _, _ => none
def fPop : D → List D → Option (D × D)
  | .lst xs, [] => match xs[xs.length - 1]? with
    | some y => some (.lst xs.dropLast, y)
    | none => none
  | _, _ => none
def fPopAt : D → List D → Option (D × D)
  | .lst xs, [.int i] => if Ok62 i = true then (match seqIndex? i xs.length with
    | some k => (match xs[k]? with
      | some y => some (.lst (xs.eraseIdx k), y)
      | none => none)
    | none => none) else none
  | _, _ => none
def fRev : D → List D → Option (D × D)
  | .lst xs, [] => some (.lst xs.reverse, .non)
  | _, _ => none
section
variable {K : PySem.W.Frag}
theorem RepO.lst_inv {G : Hp} {rho : List Addr} {o : HO} {xs : List D} (r : RepO K G rho o (.lst xs)) : ∃ vs, o = .lst vs ∧ Reps K G rho vs xs := by cases r with | lst r => exact ⟨_, rfl, r⟩
theorem md_app : MutD K rAppend fApp := fun W H p o d ds vs d' x Q hp ro rs e k => by
  match d, ds, ro, rs, e with
  | .lst xs, [y], ro, rs, e =>
    have e' : (if xs.length < sizeLine then some (D.lst (xs ++ [y]), D.non) else none) = some (d', x) := e
    by_cases h : xs.length < sizeLine
    · rw [if_pos h] at e'; cases e'
      obtain ⟨us, rfl, r⟩ := ro.lst_inv
      obtain ⟨u, rfl, ru⟩ := rs.one
      exact ⟨p, us, u, rfl, rfl, hp, by rw [r.length]; exact h, k _ _ (.lst (r.append (.cons ru .nil))) .non⟩
    · rw [if_neg h] at e'; cases e'
theorem md_pop : MutD K rPop fPop := fun W H p o d ds vs d' x Q hp ro rs e k => by
  match d, ds, ro, rs, e with
  | .lst xs, [], ro, rs, e =>
    unfold fPop at e
    cases q : xs[xs.length - 1]? with
    | none => simp only [q] at e; cases e
    | some y =>
      simp only [q] at e; cases e
      obtain ⟨us, rfl, r⟩ := ro.lst_inv
      cases rs
      obtain ⟨u, hu, ru⟩ := r.get q
      exact ⟨p, us, u, rfl, rfl, hp, by rw [r.length]; exact hu, k _ _ (.lst r.dropLast) ru⟩
theorem md_popAt : MutD K rPopAt fPopAt := fun W H p o d ds vs d' x Q hp ro rs e k => by
  match d, ds, ro, rs, e with
  | .lst xs, [.int i], ro, rs, e =>
    have e : (if Ok62 i = true then (match seqIndex? i xs.length with | some k => (match xs[k]? with | some y => some (D.lst (xs.eraseIdx k), y) | none => none) | none => none) else none) = some (d', x) := e
    by_cases h : Ok62 i = true
    · rw [if_pos h] at e
      cases q : seqIndex? i xs.length with
      | none => simp only [q] at e; cases e
      | some j =>
        simp only [q] at e
        cases q2 : xs[j]? with
        | none => simp only [q2] at e; cases e
        | some y =>
          simp only [q2] at e; cases e
          obtain ⟨us, rfl, r⟩ := ro.lst_inv
          obtain ⟨u, rfl, ru⟩ := rs.one
          have := ru.int_inv
          subst this
          obtain ⟨u, hu, ru⟩ := r.get q2
          have h1 := (Ok62.lo h)
          exact ⟨p, us, i, j, u, rfl, rfl, hp, by omega, by omega, by rw [r.length]; exact q, hu, k _ _ (.lst (r.erase j)) ru⟩
    · rw [if_neg h] at e; cases e
theorem md_rev : MutD K rReverse fRev := fun W H p o d ds vs d' x Q hp ro rs e k => by
  match d, ds, ro, rs, e with
  | .lst xs, [], ro, rs, e =>
    cases e
    obtain ⟨us, rfl, r⟩ := ro.lst_inv
    cases rs
    exact ⟨p, us, rfl, rfl, hp, k _ _ (.lst r.reverse) .non⟩
end
section
variable {X : Cx} {C : Ctx} {mo : M Opd} {ma : M (List D)} {o e : Expr} {apos cpos : Pos} {me : M D}
theorem e_append (hK : X.K = C.K) (ho : EO X C o mo) (ha : EA X C [e] ma) (hbase : attributeBase o "append" X.env (eval o X.env) = eval o X.env := by rfl) (hline : (apos.endLine == cpos.line) = true := by rfl)
    (hfew : ((backTo cpos (starEach [e] X.env)).all (fun x => !x.1) && (backToKw cpos (keywordEach [] X.env)).all (fun x => x.1.isSome)
      && decide (([e] : List Expr).length + ([] : List Keyword).length + (if ([] : List Keyword).isEmpty then 0 else 1) < 30)) = true := by rfl) (hs : starEach [e] X.env = (false, eval e X.env) :: starEach [] X.env := by rfl) :
    E X C (.Call (.Attribute o "append" apos) [e] [] cpos) (mMut fApp mo ma) := e_mut F.slot_list_append F.type_list_append mt_append md_app hK ho ha hbase hfew hline hs rfl
theorem e_popAt (hK : X.K = C.K) (ho : EO X C o mo) (ha : EA X C [e] ma) (hbase : attributeBase o "pop" X.env (eval o X.env) = eval o X.env := by rfl) (hline : (apos.endLine == cpos.line) = true := by rfl)
    (hfew : ((backTo cpos (starEach [e] X.env)).all (fun x => !x.1) && (backToKw cpos (keywordEach [] X.env)).all (fun x => x.1.isSome)
      && decide (([e] : List Expr).length + ([] : List Keyword).length + (if ([] : List Keyword).isEmpty then 0 else 1) < 30)) = true := by rfl) (hs : starEach [e] X.env = (false, eval e X.env) :: starEach [] X.env := by rfl) :
    E X C (.Call (.Attribute o "pop" apos) [e] [] cpos) (mMut fPopAt mo ma) := e_mut F.slot_list_pop F.type_list_pop mt_popAt md_popAt hK ho ha hbase hfew hline hs rfl
theorem e_pop (hK : X.K = C.K) (ho : EO X C o mo) (hbase : attributeBase o "pop" X.env (eval o X.env) = eval o X.env := by rfl) (hline : (apos.endLine == cpos.line) = true := by rfl) :
    E X C (.Call (.Attribute o "pop" apos) [] [] cpos) (mMut0 fPop mo) := e_mut0 F.slot_list_pop F.type_list_pop mt_pop md_pop hK ho hbase hline
end

/-! ### o[i] = v -/
section
variable {κ : Type} [DecidableEq κ] {α : Type}
def kget (k : κ) : List κ → List α → Option α
  | j :: ks, x :: xs => if j = k then some x else kget k ks xs
  | _, _ => none
def kput (ks : List κ) (k : κ) : List κ := if k ∈ ks then ks else ks ++ [k]
def kmapX (k : κ) (y : α) : List κ → List α → List α
  | j :: ks, x :: xs => (if j = k then y else x) :: kmapX k y ks xs
  | _, _ => []
def kputX (ks : List κ) (xs : List α) (k : κ) (y : α) : List α := if k ∈ ks then kmapX k y ks xs else xs ++ [y]
end
section
variable {κ : Type} [DecidableEq κ] {K : PySem.W.Frag} {G : Hp} {rho : List Addr}
theorem kget_ok {k : κ} : ∀ {ks : List κ} {vs : List V} {xs : List D} {d : D}, Reps K G rho vs xs → kget k ks xs = some d → ∃ v, valV (ks.zip vs) k = some v ∧ Rep K G rho v d
  | [], _, xs, d, _, e => by cases xs <;> cases e
  | j :: ks, _, _, d, .nil, e => by cases e
  | j :: ks, _, _, d, .cons (v := v) (vs := vs) (d := x) (ds := xs) h t, e => by
    have e' : (if j = k then some x else kget k ks xs) = some d := e
    by_cases z : j = k
    · rw [if_pos z] at e'; cases e'
      exact ⟨v, valV_pos (p := (j, v)) z, h⟩
    · rw [if_neg z] at e'
      obtain ⟨u, hu, ru⟩ := kget_ok t e'
      exact ⟨u, by rw [List.zip_cons_cons, valV_neg (p := (j, v)) z]; exact hu, ru⟩
theorem kget_no {k : κ} : ∀ {ks : List κ} {vs : List V} {xs : List D}, Reps K G rho vs xs → kget k ks xs = none → valV (ks.zip vs) k = none
  | [], _, xs, _, e => rfl
  | j :: ks, _, _, .nil, e => by simp [valV]
  | j :: ks, _, _, .cons (v := v) (vs := vs) (d := x) (ds := xs) h t, e => by
    have e' : (if j = k then some x else kget k ks xs) = none := e
    by_cases z : j = k
    · rw [if_pos z] at e'; cases e'
    · rw [if_neg z] at e'
      rw [List.zip_cons_cons, valV_neg (p := (j, v)) z]
      exact kget_no t e'
theorem any_zip {k : κ} : ∀ {ks : List κ} {vs : List V}, ks.length = vs.length → ((ks.zip vs).any fun kv => decide (kv.1 = k)) = decide (k ∈ ks)
  | [], _, _ => by simp
  | j :: ks, [], h => by cases h
  | j :: ks, v :: vs, h => by
    rw [List.zip_cons_cons, List.any_cons, any_zip (by simpa using h)]
    by_cases z : j = k
    · subst z; simp
    · have z' : ¬ k = j := fun w => z w.symm
      simp [z, z']
theorem map_zip {k : κ} {y : V} : ∀ {ks : List κ} {vs : List V}, ks.length = vs.length → ((ks.zip vs).map fun kv => if kv.1 = k then (kv.1, y) else kv) = ks.zip (kmapX k y ks vs)
  | [], _, _ => by simp
  | j :: ks, [], h => by cases h
  | j :: ks, v :: vs, h => by
    unfold kmapX
    rw [List.zip_cons_cons, List.map_cons, List.zip_cons_cons, map_zip (by simpa using h)]
    by_cases z : j = k
    · simp only [if_pos z]
    · simp only [if_neg z]
theorem putK_zip {k : κ} {y : V} {ks : List κ} {vs : List V} (h : ks.length = vs.length) : putK (ks.zip vs) k y = (kput ks k).zip (kputX ks vs k y) := by
  unfold putK kput kputX
  rw [any_zip h]
  by_cases z : k ∈ ks
  · rw [if_pos (by simpa using z), if_pos z, if_pos z, map_zip h]
  · rw [if_neg (by simpa using z), if_neg z, if_neg z, List.zip_append h]; rfl
theorem kmapX_len {k : κ} {α : Type} {y : α} : ∀ {ks : List κ} {xs : List α}, ks.length = xs.length → (kmapX k y ks xs).length = xs.length
  | [], [], _ => rfl
  | [], _ :: _, h => by cases h
  | j :: ks, [], h => by cases h
  | j :: ks, x :: xs, h => by unfold kmapX; rw [List.length_cons, List.length_cons, kmapX_len (by simpa using h)]
theorem kput_len {k : κ} {α : Type} {y : α} {ks : List κ} {xs : List α} (h : ks.length = xs.length) : (kput ks k).length = (kputX ks xs k y).length := by
  unfold kput kputX
  by_cases z : k ∈ ks
  · rw [if_pos z, if_pos z, kmapX_len h]; exact h
  · rw [if_neg z, if_neg z, List.length_append, List.length_append, h]; rfl
theorem kmapX_rep {k : κ} {v : V} {d : D} (h : Rep K G rho v d) : ∀ {ks : List κ} {vs : List V} {xs : List D}, Reps K G rho vs xs → Reps K G rho (kmapX k v ks vs) (kmapX k d ks xs)
  | [], _, _, _ => by unfold kmapX; exact .nil
  | j :: ks, _, _, .nil => by unfold kmapX; exact .nil
  | j :: ks, _, _, .cons hh t => by
    unfold kmapX
    by_cases z : j = k
    · simp only [if_pos z]; exact .cons h (kmapX_rep h t)
    · simp only [if_neg z]; exact .cons hh (kmapX_rep h t)
theorem kputX_rep {k : κ} {v : V} {d : D} (h : Rep K G rho v d) {ks : List κ} {vs : List V} {xs : List D} (r : Reps K G rho vs xs) : Reps K G rho (kputX ks vs k v) (kputX ks xs k d) := by
  unfold kputX
  by_cases z : k ∈ ks
  · rw [if_pos z, if_pos z]; exact kmapX_rep h r
  · rw [if_neg z, if_neg z]; exact r.append (.cons h .nil)
end
def dKey : D → Option Key
  | .int i => some (.inl i)
  | .str x => some (.inr x)
  | _ => none
def dKeys : List D → Option (List Key)
  | [] => some []
  | d :: ds => match dKey d, dKeys ds with
    | some k, some ks => some (k :: ks)
    | _, _ => none
theorem dKey_rep {K : PySem.W.Frag} {G : Hp} {rho : List Addr} {v : V} {d : D} {k : Key} (r : Rep K G rho v d) (e : dKey d = some k) : v = kV k := by
  cases d with
  | int i => cases e; exact r.int_inv
  | str x => cases e; exact r.str_inv
  | _ => cases e
theorem dKeys_rep {K : PySem.W.Frag} {G : Hp} {rho : List Addr} : ∀ {ds : List D} {vs : List V} {ks : List Key}, Reps K G rho vs ds → dKeys ds = some ks → vs = ks.map kV
  | _, _, _, .nil, e => by cases e; rfl
  | _, _, ks, .cons (d := d) (ds := ds) h t, e => by
    unfold dKeys at e
    cases q : dKey d with
    | none => simp only [q] at e; cases e
    | some k =>
      cases q2 : dKeys ds with
      | none => simp only [q, q2] at e; cases e
      | some ks' => simp only [q, q2] at e; cases e; rw [dKey_rep h q, dKeys_rep t q2]; rfl
/-- what stands at the key -/
def dGetD : D → D → Option D
  | .dk ks xs, i => match dKey i with
    | some k => kget k ks xs
    | none => none
  | .dt ks xs, .tup is => match dKeys is with
    | some k => kget k ks xs
    | none => none
  | _, _ => none
/-- the container behind o[i] = v -/
def dSetD : D → D → D → Option D
  | .lst xs, .int k, v => (match ixN xs.length k with
    | some j => some (.lst (xs.set j v))
    | none => none)
  | .dk ks xs, i, v => (match dKey i with
    | some k => if ks.length < sizeLine then some (.dk (kput ks k) (kputX ks xs k v)) else none
    | none => none)
  | .dt ks xs, .tup is, v => (match dKeys is with
    | some k => if ks.length < sizeLine then some (.dt (kput ks k) (kputX ks xs k v)) else none
    | none => none)
  | _, _, _ => none
theorem Rep.tupA {K : PySem.W.Frag} {W : Wd} {v : V} {is : List D} (h : Rep K W.G W.rho v (.tup is)) : ∃ p vs, v = .ref p ∧ W.G p = some (.tup vs) ∧ Reps K W.G W.rho vs is := by
  cases h with
  | obj h r => cases r with | tup r => exact ⟨_, _, rfl, h, r⟩
def mDGet (mo : M Opd) (mi : M D) : M D := fun env S => (mo env S).bind fun o env S => (mi env S).bind fun i env S => match resO env S o with
  | some d => Res.lift (dGetD d i) env S
  | none => .stuck
def sPut (mo : M Opd) (mi mv : M D) : MS := fun env S => (mv env S).toS fun v env S => (mo env S).toS fun o env S => (mi env S).toS fun i env S => match cellO env S o with
  | some d => (match dSetD d i v with
    | some d' => .next (setE env o d') (setS S o d')
    | none => .stuck)
  | none => .stuck
section
variable {X : Cx} {C : Ctx} {k : Nat} {mo : M Opd} {mi mv : M D} {o i value : Expr} {pos pos' : Pos}
theorem e_dget (ok : Okc X C k) (ho : EO X C o mo) (hi : E X C i mi) (hs : NoSl i := by exact fun _ _ => rfl) : E X C (.Subscript o i pos) (mDGet mo mi) := by
  refine PE.imp (pe_dget (by have := ok.room.units; omega) ho hi hs) fun σ H Q ⟨B, W, L, env, S, m, p⟩ => ?_
  refine ⟨B, W, L, env, S, m, (Post.bind p).mono fun x W1 env1 S1 H1 le1 m1 p1 v rv => ?_⟩
  refine ⟨B, W1, L, env1, S1, m1, (Post.bind p1).mono fun y W2 env2 S2 H2 le2 m2 p2 u ru => ?_⟩
  cases q : resO env2 S2 x with
  | none => simp only [q] at p2; exact p2.elim
  | some d =>
    simp only [q] at p2
    have rx := m2.res (rv.mono le2) q
    cases q2 : dGetD d y with
    | none => rw [q2] at p2; exact p2.elim
    | some z =>
      rw [q2] at p2
      cases d with
      | dk ks xs =>
        obtain ⟨a, vs, rfl, ha, hl, rs⟩ := rx.dk_inv m2.s.ex
        have q3 : (match dKey y with | some k => kget k ks xs | none => none) = some z := q2
        cases q4 : dKey y with
        | none => rw [q4] at q3; cases q3
        | some key =>
          rw [q4] at q3
          obtain ⟨w, hw, rw'⟩ := kget_ok rs q3
          refine ⟨a, w, rfl, .inl ⟨_, key, .inl ha, dKey_rep ru q4, hw.symm⟩, p2 W2 H2 (Wd.Le.refl W2) m2 w rw'⟩
      | dt ks xs =>
        cases y with
        | tup is =>
          obtain ⟨a, vs, rfl, ha, hl, rs⟩ := rx.dt_inv m2.s.ex
          have q3 : (match dKeys is with | some k => kget k ks xs | none => none) = some z := q2
          cases q4 : dKeys is with
          | none => rw [q4] at q3; cases q3
          | some key =>
            rw [q4] at q3
            obtain ⟨b, us, rfl, hb, rb⟩ := ru.tupA
            have := dKeys_rep rb q4
            subst this
            obtain ⟨w, hw, rw'⟩ := kget_ok rs q3
            exact ⟨a, w, rfl, .inr ⟨_, key, b, .inl ha, rfl, m2.s.ex _ _ hb, hw.symm⟩, p2 W2 H2 (Wd.Le.refl W2) m2 w rw'⟩
        | _ => cases q2
      | _ => cases q2
theorem sPut_end {B : Bs} {W : Wd} {L : Nat → Addr} {env : List Slot} {S : List D} {σ : St} {H : Hp} {N : Ends} {x : Opd} {y z : D} {v u w : V} (m : Sim C.K B W L env S σ H) (rv : RepP C.K W L v x) (ru : Rep C.K W.G W.rho u y) (rw' : Rep C.K W.G W.rho w z)
    (p : PostS C B W (match cellO env S x with
      | some d => (match dSetD d y z with
        | some d' => .next (setE env x d') (setS S x d')
        | none => .stuck)
      | none => .stuck) N) :
    (∃ p xs k j, v = .ref p ∧ u = .int k ∧ H p = some (.lst xs) ∧ ixN xs.length k = some j ∧ N.nx σ (upd H p (.lst (xs.set j w)))) ∨ ∃ a H4, v = .ref a ∧ DPut H a u w H4 ∧ N.nx σ H4 := by
  cases q : cellO env S x with
  | none => simp only [q] at p; exact p.elim
  | some d =>
    simp only [q] at p
    obtain ⟨a, oo, rfl, ho, ro, k⟩ := m.mutO rv q
    cases q2 : dSetD d y z with
    | none => simp only [q2] at p; exact p.elim
    | some d' =>
      simp only [q2] at p
      have fin : ∀ o', RepO C.K W.G W.rho o' d' → N.nx σ (upd H a o') := fun o' r' => p W L σ _ (Wd.Le.refl W) (k o' d' r')
      cases d with
      | lst xs =>
        cases y with
        | int i =>
          have q3 : (match ixN xs.length i with | some j => some (D.lst (xs.set j z)) | none => none) = some d' := q2
          obtain ⟨us, rfl, r⟩ := ro.lst_inv
          cases q4 : ixN xs.length i with
          | none => rw [q4] at q3; cases q3
          | some j =>
            rw [q4] at q3; cases q3
            exact .inl ⟨a, us, i, j, rfl, ru.int_inv, ho, by rw [r.length]; exact q4, fin _ (.lst (r.set rw' j))⟩
        | _ => cases q2
      | dk ks xs =>
        have q3 : (match dKey y with | some k => if ks.length < sizeLine then some (D.dk (kput ks k) (kputX ks xs k z)) else none | none => none) = some d' := q2
        cases q4 : dKey y with
        | none => rw [q4] at q3; cases q3
        | some key =>
          rw [q4] at q3
          have q3 : (if ks.length < sizeLine then some (D.dk (kput ks key) (kputX ks xs key z)) else none) = some d' := q3
          by_cases hz : ks.length < sizeLine
          · rw [if_pos hz] at q3; cases q3
            cases ro with
            | @dk _ vs _ hl r =>
              refine .inr ⟨a, _, rfl, .inl ⟨_, key, ho, dKey_rep ru q4, ?_, rfl⟩, ?_⟩
              · rw [List.length_zip]; omega
              · rw [putK_zip hl]
                exact fin _ (.dk (kput_len hl) (kputX_rep rw' r))
          · rw [if_neg hz] at q3; cases q3
      | dt ks xs =>
        cases y with
        | tup is =>
          have q3 : (match dKeys is with | some k => if ks.length < sizeLine then some (D.dt (kput ks k) (kputX ks xs k z)) else none | none => none) = some d' := q2
          cases q4 : dKeys is with
          | none => rw [q4] at q3; cases q3
          | some key =>
            rw [q4] at q3
            have q3 : (if ks.length < sizeLine then some (D.dt (kput ks key) (kputX ks xs key z)) else none) = some d' := q3
            by_cases hz : ks.length < sizeLine
            · rw [if_pos hz] at q3; cases q3
              cases ro with
              | @dt _ vs _ hl r =>
                obtain ⟨b, us, rfl, hb, rb⟩ := ru.tupA
                have := dKeys_rep rb q4
                subst this
                refine .inr ⟨a, _, rfl, .inr ⟨_, key, b, ho, rfl, m.s.ex _ _ hb, ?_, rfl⟩, ?_⟩
                · rw [List.length_zip]; omega
                · rw [putK_zip hl]
                  exact fin _ (.dt (kput_len hl) (kputX_rep rw' r))
            · rw [if_neg hz] at q3; cases q3
        | _ => cases q2
      | _ => cases q2
/-- d[k] = v, d a dict -/
theorem PS.orT {X : Cx} {e : Stmt} {t t' : TS} (h : PS X e t) (h' : PS X e t') : PS X e (fun D σ H => t D σ H ∨ t' D σ H) := ⟨fun pins s σ H D I q => q.elim (h.run pins s σ H D I) (h'.run pins s σ H D I)⟩
theorem set_any (hu : X.A.units + 1 < cLine) : PSet X (fun o i v H Q => rSetL o i v H Q ∨ rSetD o i v H Q) := fun pins s σ H o i v ov iv u Q I ro ri rv h => h.elim (set_list pins s σ H o i v ov iv u Q I ro ri rv) (set_dict hu pins s σ H o i v ov iv u Q I ro ri rv)
theorem s_put (ok : Okc X C k) (ho : EO X C o mo) (hi : E X C i mi) (hv : E X C value mv) (hs : swapsWithSole [.Subscript o i pos'] value pos.line X.env = pure false := by rfl) (hw : swappedStores [.Subscript o i pos'] value X.env = pure none := by rfl)
    (h1 : (assignEach [.Subscript o i pos'] X.env).map (·.2) = [assign (.Subscript o i pos') X.env] := by rfl)
    (ha : ∀ v, assign (.Subscript o i pos') X.env v = (do
      let ov ← holding [v] (eval o X.env)
      let iv ← holding [v, ov] (eval i X.env)
      standAt pos'
      holding [v, ov, iv] (setItem ov iv v)
      release [v, ov, iv] []) := by intro _; rfl) : ES X C (.Assign [.Subscript o i pos'] value pos) (sPut mo mi mv) := by
  refine PS.imp (ps_asg hv (pg_sub ho hi (set_any (by have := ok.room.units; omega)) ha) hs hw h1) fun N σ H ⟨B, W, L, env, S, m, p⟩ => ?_
  refine ⟨B, W, L, env, S, m, (post_toS p).mono fun z W1 env1 S1 H1 le1 m1 p1 w rw' => ?_⟩
  refine ⟨B, W1, L, env1, S1, m1, (post_toS p1).mono fun x W2 env2 S2 H2 le2 m2 p2 v rv => ?_⟩
  refine ⟨B, W2, L, env2, S2, m2, (post_toS p2).mono fun y W3 env3 S3 H3 le3 m3 p3 u ru => ?_⟩
  rcases sPut_end m3 (rv.mono le3) ru (rw'.mono (le2.trans le3)) p3 with h | ⟨a, H4, rfl, h, n⟩
  · exact .inl h
  · exact .inr ⟨a, H4, rfl, h, n⟩
end

/-! ### self.f = e -/
def sFldP (f : Str) (cs : List Str) (mo : M Opd) (mv : M D) : MS := fun env S => (mv env S).toS fun v env S => (mo env S).toS fun o env S => match cellO env S o with
  | some (.ins c ns xs) => if c ∈ cs ∧ ns.length < 1000 then .next (setE env o (.ins c (putNs f ns) (putXs f v ns xs))) (setS S o (.ins c (putNs f ns) (putXs f v ns xs))) else .stuck
  | _ => .stuck
theorem s_fld {X : Cx} {C : Ctx} {f : Str} {cs : List Str} {mo : M Opd} {mv : M D} {o value : Expr} {pos pos' : Pos} (g : GFd X.K f cs) (hK : X.K = C.K) (ho : EO X C o mo) (hv : E X C value mv)
    (hs : swapsWith value (some (.Attribute o f pos')) pos.line X.env = pure false := by rfl) : ES X C (.Assign [.Attribute o f pos'] value pos) (sFldP f cs mo mv) := by
  refine PS.imp (ps_fld ho hv hs) fun N σ H ⟨B, W, L, env, S, m, p⟩ => ?_
  refine ⟨B, W, L, env, S, m, (post_toS p).mono fun z W1 env1 S1 H1 le1 m1 p1 w rw' => ?_⟩
  refine ⟨B, W1, L, env1, S1, m1, (post_toS p1).mono fun x W2 env2 S2 H2 le2 m2 p2 v rv => ?_⟩
  cases q : cellO env2 S2 x with
  | none => simp only [q] at p2; exact p2.elim
  | some d =>
    simp only [q] at p2
    obtain ⟨a, oo, rfl, ha, ro, k⟩ := m2.mutO rv q
    cases d with
    | ins c ns xs =>
      by_cases hc : c ∈ cs ∧ ns.length < 1000
      · have p2 : PostS C B W2 (if c ∈ cs ∧ ns.length < 1000 then .next (setE env2 x (.ins c (putNs f ns) (putXs f z ns xs))) (setS S2 x (.ins c (putNs f ns) (putXs f z ns xs))) else .stuck) N := p2
        rw [if_pos hc] at p2
        cases ro with
        | @ins _ dx _ vs _ hl r =>
          refine ⟨a, He.ga C.K c, dx, _, rfl, ha, by rw [← hK]; exact (g c hc.1).1, by rw [← hK]; exact (g c hc.1).2, ?_, ?_⟩
          · rw [List.length_zip]; omega
          · rw [putF_zip hl]
            exact p2 W2 L σ _ (Wd.Le.refl W2) (k _ _ (.ins (put_len hl) (putXs_rep (rw'.mono le2) r)))
      · have p2 : PostS C B W2 (if c ∈ cs ∧ ns.length < 1000 then .next (setE env2 x (.ins c (putNs f ns) (putXs f z ns xs))) (setS S2 x (.ins c (putNs f ns) (putXs f z ns xs))) else .stuck) N := p2
        rw [if_neg hc] at p2; exact p2.elim
    | _ => exact p2.elim

/-! ### name op= e -/
def sAug (i : Nat) (f : D → D → Option D) (m : M D) : MS := fun env S => match env[i]? with
  | some (.val x) => (m env S).toS fun y env S => (match f x y with
    | some d => if i < env.length then .next (env.set i (.val d)) S else .stuck
    | none => .stuck)
  | _ => .stuck
theorem s_aug {X : Cx} {C : Ctx} (i : Nat) {x : Str} {e : Expr} {op : Operator} {r : R2} {f : D → D → Option D} {m : M D} {pos pos' : Pos} (hN : X.N.Nodup) (ho : PIp X op r) (hr : OpD C.K r f) (he : E X C e m) (hi : X.N[i]? = some x := by rfl) (hx : Loc X.env.scope x := by first | exact Or.inl rfl | exact Or.inr rfl)
    (hf : X.fn x = true ∨ X.env.scope.names.lookup x = some .local := by first | exact .inl rfl | exact .inr rfl | assumption) : ES X C (.AugAssign (.Name x pos') op e pos) (sAug i f m) := by
  refine PS.imp (ps_aug hN hi hx he ho hf) fun N σ H ⟨B, W, L, env, S, m0, p⟩ => ?_
  unfold sAug at p
  cases q : env[i]? with
  | none => rw [q] at p; exact p.elim
  | some s =>
    rw [q] at p
    cases s with
    | none => exact p.elim
    | loc d => exact p.elim
    | val a =>
      obtain ⟨v, hv, rv⟩ := m0.val i a q
      refine ⟨v, hv, B, W, L, env, S, m0, (post_toS p).mono fun b W1 env1 S1 H1 le1 m1 p1 u ru => ?_⟩
      cases q2 : f a b with
      | none => simp only [q2] at p1; exact p1.elim
      | some d =>
        simp only [q2] at p1
        by_cases hl : i < env1.length
        · rw [if_pos hl] at p1
          refine hr W1 H1 v u a b d _ m1.s.ex (.inl (rv.mono le1)) (.inl ru) q2 fun v' H' W' y => ?_
          obtain ⟨l2, m2, r2⟩ := m1.yield y
          exact p1 W' L _ H' l2 (m2.setVal r2 hl)
        · rw [if_neg hl] at p1; exact p1.elim
def dAddA : D → D → Option D
  | .int i, .int j => some (.int (i + j))
  | .str a, .str b => sAdd (.str a) (.str b)
  | _, _ => none
theorem ip_addA {X : Cx} : PIp X .Add (fun x y H Q => (rI0 fun i j => .int (i + j)) x y H Q ∨ rAddS x y H Q) := fun pins s σ H x y v u Q I rx ry h => h.elim (fun ⟨i, j, e1, e2, q⟩ => ip_add pins s σ H x y v u Q I rx ry ⟨i, j, e1, e2, q⟩) (iop_add_str pins s σ H x y v u Q I rx ry)
theorem od_addA {K : PySem.W.Frag} : OpD K (fun x y H Q => (rI0 fun i j => .int (i + j)) x y H Q ∨ rAddS x y H Q) dAddA := (od_iAdd.or od_sAdd).to fun a b d e => by
  cases a <;> cases b <;> first | exact e | (cases e)
theorem od_subA {K : PySem.W.Frag} : OpD K (ipI fun i j => i - j) iSub := fun W H v u a b d Q fz ra rb e k => by
  cases a <;> cases b <;> first | (cases e; exact ⟨_, _, ra.int_inv, rb.int_inv, k _ _ _ (.same (.int _))⟩) | cases e
end Vf
/-! Vf10: text methods, isinstance, an own `in`, raise. -/
namespace Vf
open PySem PySem.Spec PyProof.Rows L2

/-! ### what is not reached -/
theorem s_stuck {X : Cx} {C : Ctx} {s : Stmt} : ES X C s (fun _ _ => .stuck) := ⟨fun pins s σ H N I ⟨B, W, L, env, S, m, p⟩ => p.elim⟩
theorem ss_stuck {X : Cx} {C : Ctx} {s : List Stmt} : ESs X C s (fun _ _ => .stuck) := ⟨fun pins s σ H N I ⟨B, W, L, env, S, m, p⟩ => p.elim⟩
theorem e_stuck {X : Cx} {C : Ctx} {e : Expr} : E X C e (fun _ _ => .stuck) := ⟨fun pins s σ H N I ⟨B, W, L, env, S, m, p⟩ => p.elim⟩

/-! ### methods of a text -/
def TxtD (K : PySem.W.Frag) (r : V → List V → Hp → VK → Prop) (f : Str → D → Option D) : Prop := ∀ (W : Wd) (H : Hp) (a : Str) (u : V) (b d : D) (Q : VK), Fz W H → RepH K W H u b → f a b = some d → (∀ v' H' W', Yield K W H d v' H' W' → Q v' H') → r (.str a) [u] H Q
def mTx (f : Str → D → Option D) (mo : M D) (me : M Opd) : M D := fun env S => (mo env S).bind fun o env S => match o with
  | .str a => (me env S).bind fun p env S => (match resO env S p with
    | some b => Res.lift (f a b) env S
    | none => .stuck)
  | _ => .stuck
section
variable {X : Cx} {C : Ctx} {id : String} {name : Str} {r : V → List V → Hp → VK → Prop} {f : Str → D → Option D} {o e : Expr} {mo : M D} {me : M Opd} {apos pos : Pos}
theorem e_tx (slot : PySem.Slot "str" name id) (ty : typeOf (.builtin id) = pure (.type "method_descriptor")) (rule : MtR X id r) (hr : TxtD C.K r f) (ho : E X C o mo) (he : EO X C e me)
    (hs : starEach [e] X.env = [(false, eval e X.env)] := by rfl) (hbase : attributeBase o name X.env (eval o X.env) = eval o X.env := by rfl) (hline : (apos.endLine == pos.line) = true := by rfl) : E X C (.Call (.Attribute o name apos) [e] [] pos) (mTx f mo me) := by
  refine PE.imp (pe_m1 slot ty rule ho he hs hbase hline) fun σ H Q ⟨B, W, L, env, S, m, p⟩ => ?_
  refine ⟨B, W, L, env, S, m, (Post.bind p).mono fun x W1 env1 S1 H1 le1 m1 p1 v rv => ?_⟩
  cases x with
  | str a =>
    have := rv.str_inv
    subst this
    refine ⟨⟨a, rfl⟩, B, W1, L, env1, S1, m1, (Post.bind p1).mono fun y W2 env2 S2 H2 le2 m2 p2 u ru => ?_⟩
    cases q : resO env2 S2 y with
    | none => simp only [q] at p2; exact p2.elim
    | some b =>
      simp only [q] at p2
      obtain ⟨d, e, hy⟩ := post_yield m2 p2
      exact hr W2 H2 a u b d Q m2.s.ex (m2.res ru q) e hy
  | _ => exact p1.elim
end
def fStarts (a : Str) : D → Option D
  | .str b => some (.bl (Txt.startswith a b))
  | _ => none
def fCount (a : Str) : D → Option D
  | .str b => some (.int (Txt.count a b))
  | _ => none
def strsOf : List D → Option (List Str)
  | [] => some []
  | .str x :: xs => (strsOf xs).map (x :: ·)
  | _ :: _ => none
theorem strsOf_eq : ∀ {xs : List D} {ys : List Str}, strsOf xs = some ys → xs = ys.map D.str
  | [], _, e => by cases e; rfl
  | x :: xs, ys, e => by
    cases x with
    | str i =>
      have e' : (strsOf xs).map (i :: ·) = some ys := e
      cases q : strsOf xs with
      | none => rw [q] at e'; cases e'
      | some js => rw [q] at e'; cases e'; rw [strsOf_eq q]; rfl
    | _ => cases e
theorem strsOf_map (ys : List Str) : strsOf (ys.map D.str) = some ys := by
  induction ys with
  | nil => rfl
  | cons i is ih =>
    show (strsOf (is.map D.str)).map (i :: ·) = _
    rw [ih]; rfl
def joinOk (a : Str) (ys : List Str) : Prop := (ys.map (·.length)).sum + ys.length * a.length ≤ 16777216
instance (a : Str) (ys : List Str) : Decidable (joinOk a ys) := inferInstanceAs (Decidable (_ ≤ _))
def fJoin (a : Str) : D → Option D
  | .lst xs => match strsOf xs with
    | some ys => if joinOk a ys then some (.str (Txt.join a ys)) else none
    | none => none
  | _ => none
section
variable {K : PySem.W.Frag}
theorem tx_starts : TxtD K (fun x xs H Q => ∃ a b, x = .str a ∧ xs = [.str b] ∧ Q (.bl (Txt.startswith a b)) H) fStarts := fun W H a u b d Q fz ru e k => by
  cases b with
  | str b => cases e; exact ⟨a, b, rfl, by rw [ru.str_inv], k _ _ _ (.same (.bl _))⟩
  | _ => cases e
theorem tx_count : TxtD K (fun x xs H Q => ∃ a b, x = .str a ∧ xs = [.str b] ∧ Q (.int (Txt.count a b)) H) fCount := fun W H a u b d Q fz ru e k => by
  cases b with
  | str b => cases e; exact ⟨a, b, rfl, by rw [ru.str_inv], k _ _ _ (.same (.int _))⟩
  | _ => cases e
theorem tx_join : TxtD K (fun x xs H Q => ∃ a p, ∃ ys : List Str, x = .str a ∧ xs = [.ref p] ∧ (SqL K H p (ys.map V.str) ∨ SqT K H p (ys.map V.str)) ∧
    (ys.map (·.length)).sum + ys.length * a.length ≤ 16777216 ∧ Q (.str (Txt.join a ys)) H) fJoin := fun W H a u b d Q fz ru e k => by
  cases b with
  | lst xs =>
    have e' : (match strsOf xs with | some ys => if joinOk a ys then some (D.str (Txt.join a ys)) else none | none => none) = some d := e
    cases q : strsOf xs with
    | none => rw [q] at e'; cases e'
    | some ys =>
      rw [q] at e'
      have e' : (if joinOk a ys then some (D.str (Txt.join a ys)) else none) = some d := e'
      by_cases h : joinOk a ys
      · rw [if_pos h] at e'; cases e'
        obtain ⟨p, vs, rfl, hp, rs⟩ := ru.lst_inv fz
        rw [strsOf_eq q] at rs
        have := rs.of_strs
        subst this
        exact ⟨a, p, ys, rfl, rfl, .inl (.of hp), h, k _ _ _ (.same (.str _))⟩
      · rw [if_neg h] at e'; cases e'
  | _ => cases e
end
section
variable {X : Cx} {C : Ctx} {o e : Expr} {mo : M D} {me : M Opd} {apos pos : Pos}
theorem e_starts (ho : E X C o mo) (he : EO X C e me) (hs : starEach [e] X.env = [(false, eval e X.env)] := by rfl) (hbase : attributeBase o "startswith" X.env (eval o X.env) = eval o X.env := by rfl) (hline : (apos.endLine == pos.line) = true := by rfl) :
    E X C (.Call (.Attribute o "startswith" apos) [e] [] pos) (mTx fStarts mo me) := e_tx F.slot_str_startswith F.type_str_startswith mt_startswith tx_starts ho he hs hbase hline
theorem e_count (ho : E X C o mo) (he : EO X C e me) (hs : starEach [e] X.env = [(false, eval e X.env)] := by rfl) (hbase : attributeBase o "count" X.env (eval o X.env) = eval o X.env := by rfl) (hline : (apos.endLine == pos.line) = true := by rfl) :
    E X C (.Call (.Attribute o "count" apos) [e] [] pos) (mTx fCount mo me) := e_tx F.slot_str_count F.type_str_count mt_count tx_count ho he hs hbase hline
theorem e_join (hK : X.K = C.K) (ho : E X C o mo) (he : EO X C e me) (hs : starEach [e] X.env = [(false, eval e X.env)] := by rfl) (hbase : attributeBase o "join" X.env (eval o X.env) = eval o X.env := by rfl) (hline : (apos.endLine == pos.line) = true := by rfl) :
    E X C (.Call (.Attribute o "join" apos) [e] [] pos) (mTx fJoin mo me) := e_tx F.slot_str_join F.type_str_join mt_join (by rw [hK]; exact tx_join) ho he hs hbase hline
end

/-! ### isinstance(x, T), T built in -/
def tyD : D → Option String
  | .non => some "NoneType" | .bl _ => some "bool" | .int _ => some "int" | .str _ => some "str"
  | .lst _ => some "list" | .tup _ => some "tuple" | .dk _ _ => some "dict" | .dt _ _ => some "dict"
  | _ => none
def isTy (T : String) (d : D) : Option Bool := match tyD d with
  | some a => if T = "bool" ∨ T = "str" ∨ T = "list" ∨ T = "tuple" ∨ T = "dict" then some (a == T) else if T = "int" then some (a == "int" || a == "bool") else none
  | none => none
theorem tyD_ok {K : PySem.W.Frag} {W : Wd} {H : Hp} {v : V} {d : D} {a : String} (fz : Fz W H) (h : RepH K W H v d) (e : tyD d = some a) : TyX K H v (.type a) := by
  cases d with
  | non => cases e; rw [h.non_inv]; exact .base .non
  | bl b => cases e; rw [h.bl_inv]; exact .base (.bl b)
  | int b => cases e; rw [h.int_inv]; exact .base (.int b)
  | str b => cases e; rw [h.str_inv]; exact .base (.str b)
  | lst xs => cases e; obtain ⟨p, vs, rfl, hp, _⟩ := h.lst_inv fz; exact .base (.lst hp)
  | tup xs => cases e; obtain ⟨p, vs, rfl, hp, _⟩ := h.tup_inv fz; exact .base (.tup hp)
  | dk ks xs => cases e; obtain ⟨p, vs, rfl, hp, _⟩ := h.dk_inv fz; exact .base (.dK hp)
  | dt ks xs => cases e; obtain ⟨p, vs, rfl, hp, _⟩ := h.dt_inv fz; exact .base (.dT hp)
  | _ => cases e
theorem kit_tab : ∀ a ∈ ["NoneType", "bool", "int", "str", "list", "tuple", "dict"], ∀ T ∈ ["bool", "str", "list", "tuple", "dict"], kitB a T = some (a == T) := by decide +kernel
theorem kit_int : ∀ a ∈ ["NoneType", "bool", "int", "str", "list", "tuple", "dict"], kitB a "int" = some (a == "int" || a == "bool") := by decide +kernel
theorem tyD_mem {d : D} {a : String} (e : tyD d = some a) : a ∈ ["NoneType", "bool", "int", "str", "list", "tuple", "dict"] := by
  cases d <;> first | (cases e; simp) | cases e
theorem isTy_ok {K : PySem.W.Frag} {T : String} {d : D} {b : Bool} (e : isTy T d = some b) : ∃ a, tyD d = some a ∧ PySem.W.kitOne K (.type a) (.type T) = some b := by
  unfold isTy at e
  cases q : tyD d with
  | none => rw [q] at e; cases e
  | some a =>
    rw [q] at e
    have e : (if T = "bool" ∨ T = "str" ∨ T = "list" ∨ T = "tuple" ∨ T = "dict" then some (a == T) else if T = "int" then some (a == "int" || a == "bool") else none) = some b := e
    refine ⟨a, rfl, ?_⟩
    by_cases h : T = "bool" ∨ T = "str" ∨ T = "list" ∨ T = "tuple" ∨ T = "dict"
    · rw [if_pos h] at e
      rw [← e]
      exact kit_ty (kit_tab a (tyD_mem q) T (by simpa using h))
    · rw [if_neg h] at e
      by_cases h2 : T = "int"
      · rw [if_pos h2] at e
        subst h2
        rw [← e]
        exact kit_ty (kit_int a (tyD_mem q))
      · rw [if_neg h2] at e; cases e
def mIsT (T : String) (mo : M Opd) : M D := fun env S => (mo env S).bind fun o env S => match resO env S o with
  | some d => Res.lift ((isTy T d).map .bl) env S
  | none => .stuck
theorem e_isT {X : Cx} {C : Ctx} {T : String} {x : Str} {e : Expr} {mo : M Opd} {p p2 pos : Pos} (hK : X.K = C.K) (hm : X.mg "isinstance" = none) (hx : X.mg x = none) (hv : bootBuiltins x = some (.type T)) (he : EO X C e mo) (hg : Gl X "isinstance" := by rfl) (hgx : Gl X x := by rfl)
    (hn : x ≠ "__name__" := by decide) (hd : (x == ("__debug__" : Str)) = false := by decide)
    (hs : starEach [e, .Name x p2] X.env = (false, eval e X.env) :: starEach [.Name x p2] X.env := by rfl) (hs2 : starEach [.Name x p2] X.env = (false, eval (.Name x p2) X.env) :: starEach [] X.env := by rfl)
    (hpl : (backTo pos (starEach [.Name x p2] X.env)).any (·.1) = false := by rfl) : E X C (.Call (.Name "isinstance" p) [e, .Name x p2] [] pos) (mIsT T mo) := by
  have h1 : PE X (.Name x p2) (tC (.ty T)) := pe_bltn hgx hx hv rfl hn hd
  refine PE.imp (pe_callB call_isi hg hm rfl (pa_cons he (pa_cons h1 pa_nil hs2) hs) (he := hs) (hpl := hpl)) fun σ H Q ⟨B, W, L, env, S, m, p⟩ => ?_
  refine ⟨B, W, L, env, S, m, (Post.bind p).mono fun o W' env' S' H' le m' q v r => ?_⟩
  cases q1 : resO env' S' o with
  | none => simp only [q1] at q; exact q.elim
  | some d =>
    simp only [q1] at q
    cases q2 : isTy T d with
    | none => rw [q2] at q; exact q.elim
    | some b =>
      rw [q2] at q
      obtain ⟨a, h2, h3⟩ := isTy_ok (K := X.K) q2
      refine ⟨v, .ty T, .type a, .type T, b, rfl, .ty T, ?_, h3, q W' H' (Wd.Le.refl W') m' _ (.bl b)⟩
      rw [hK]
      exact tyD_ok m'.s.ex (m'.res r q1) h2

/-! ### an own __contains__ -/
abbrev rInK (C : Addr) (sp : Sp) (dvs : List V) (E : XK) (g : Bool → Bool) : R2 := fun x y H Q => ∃ a dx fs, y = .ref a ∧ H a = some (.ins C dx fs) ∧ sp ([.ref a, x] ++ dvs) H (fun v H' => ∃ b, v = .bl b ∧ Q (.bl (g b)) H') E
section
variable {X : Cx} {CX : CXT} {k : Nat} {f C : Addr} {fd : FuncData} {ps : List Str} {sp : Sp} {E : XK} {ds : List Value} {dvs : List V}
theorem op_inK (F : FnOk X.prog X.w X.K X.mg X.base CX k f fd ps sp) (hs : Meth X.K C "__contains__" f) (hr : Room k X.A) (hb : Binds X.K fd ps ds) (hd : Vals dvs ds) (hx : Passes CX X E) : OpR X (compareOp .In) (rInK C sp dvs E id) := by
  intro pins s σ H x y v u Q I rx ry h
  obtain ⟨a, dx, fs, rfl, ha, q⟩ := h
  cases ry
  obtain ⟨mA, J, _⟩ := ins_get I.hok ha
  obtain ⟨od, J, _⟩ := J.look
  obtain ⟨m, hF⟩ := I.fr
  refine PySem.W.in_K hF I.ok.mod.kin J hs.at_ hs.fn ?_
  refine wpAny_mono (run_fn (Q := fun v H' => ∃ b, v = .bl b ∧ Q (.bl b) H') F hr hb hd hx I (us := [.ref a, v]) (vs := [.ref a, x]) (.cons rfl (.cons rx .nil)) q) (fun w s1 hw => ?_) fun _ _ z => z
  obtain ⟨z, H', I', rz, b, ez, q'⟩ := hw
  subst ez
  cases rz
  exact wpAny_truthy_bool ⟨.bl b, H', I', rfl, q'⟩
theorem op_notInK (F : FnOk X.prog X.w X.K X.mg X.base CX k f fd ps sp) (hs : Meth X.K C "__contains__" f) (hr : Room k X.A) (hb : Binds X.K fd ps ds) (hd : Vals dvs ds) (hx : Passes CX X E) : OpR X (compareOp .NotIn) (rInK C sp dvs E not) := by
  intro pins s σ H x y v u Q I rx ry h
  obtain ⟨a, dx, fs, rfl, ha, q⟩ := h
  cases ry
  obtain ⟨mA, J, _⟩ := ins_get I.hok ha
  obtain ⟨od, J, _⟩ := J.look
  obtain ⟨m, hF⟩ := I.fr
  refine PySem.W.notIn_K hF I.ok.mod.kin J hs.at_ hs.fn ?_
  refine wpAny_mono (run_fn (Q := fun v H' => ∃ b, v = .bl b ∧ Q (.bl (!b)) H') F hr hb hd hx I (us := [.ref a, v]) (vs := [.ref a, x]) (.cons rfl (.cons rx .nil)) q) (fun w s1 hw => ?_) fun _ _ z => z
  obtain ⟨z, H', I', rz, b, ez, q'⟩ := hw
  subst ez
  cases rz
  exact wpAny_truthy_bool ⟨.bl (!b), H', I', rfl, q'⟩
end
def CRes.toB (g : Bool → Bool) (env : List Slot) : CRes → Res D
  | .ok (.bl b) S => .ok (.bl (g b)) env S
  | .err x S => .err x env S
  | _ => .stuck
def insC (c : Str) : D → Bool
  | .ins c' _ _ => decide (c' = c)
  | _ => false
theorem insC_eq {c : Str} {d : D} (h : insC c d = true) : ∃ ns xs, d = .ins c ns xs := by
  cases d with
  | ins c' ns xs => have e : c' = c := of_decide_eq_true h; subst e; exact ⟨_, _, rfl⟩
  | _ => cases h
/-- a in b, b an instance of c -/
def mInK (c : Str) (F : Fn) (g : Bool → Bool) (ma mb : M D) : M D := fun env S => (ma env S).bind fun a env S => (mb env S).bind fun b env S => if insC c b = true then (F [b, a] S).toB g env else .stuck
section
variable {X : Cx} {C : Ctx} {k j : Nat} {F : Fn} {c : Str} {a b : Expr} {ma mb : M D} {pos : Pos} {g : Bool → Bool}
theorem tInK_of (ok : Okc X C k) {sp : Sp} {dvs : List V} (hs : ∀ vs H Q E, spOf X.K 2 F vs H Q E → sp (vs ++ dvs) H Q E) {σ : St} {H : Hp} {Q : VK} (h : teOf C (mInK c F g ma mb) σ H Q) : tOp (rInK (He.ga X.K c) sp dvs C.wish g) (teOf C ma) (teOf C mb) σ H Q := by
  obtain ⟨B, W, L, env, S, m, p⟩ := h
  refine ⟨B, W, L, env, S, m, (Post.bind p).mono fun x W1 env1 S1 H1 le1 m1 p1 v rv => ?_⟩
  refine ⟨B, W1, L, env1, S1, m1, (Post.bind p1).mono fun y W2 env2 S2 H2 le2 m2 p2 u ru => ?_⟩
  by_cases hc : insC c y = true
  · rw [if_pos hc] at p2
    obtain ⟨ns, xs, rfl⟩ := insC_eq hc
    obtain ⟨p0, dx, vs, rfl, hp, hl, rs⟩ := RepH.ins_inv m2.s.ex (.inl ru)
    refine ⟨p0, dx, _, rfl, by rw [ok.hK]; exact hp, ?_⟩
    refine hs [.ref p0, v] _ _ _ ⟨rfl, W2, [.ins c ns xs, x], S2, ?_, ?_, ?_⟩
    · rw [ok.hK]; exact m2.s
    · rw [ok.hK]; exact .cons ru (.cons (rv.mono le2) .nil)
    · rw [ok.hK]
      cases q : F [.ins c ns xs, x] S2 with
      | ok d S' =>
        rw [q] at p2
        cases d with
        | bl b =>
          have p3 : Post C B L σ W2 (.ok (D.bl (g b)) env2 S') _ := p2
          exact fun W' H' w a s' rw' => ⟨b, rw'.bl_inv, p3 W' H' a.le (m2.aft a s') _ (.bl _)⟩
        | _ => exact False.elim p2
      | new d S' => rw [q] at p2; exact False.elim p2
      | err y S' =>
        rw [q] at p2
        have p3 : Post C B L σ W2 (.err y env2 S') _ := p2
        exact fun W' H' cls dd a s' rx => p3 W' H' cls dd a.le (m2.aft a s') rx
      | stuck => rw [q] at p2; exact False.elim p2
  · rw [if_neg hc] at p2; exact p2.elim
theorem e_inK (G : GMt X.prog X.w X.K X.mg X.base c "__contains__" 2 j F) (ok : Okc X C k) (hj : j ≤ k) (ha : E X C a ma) (hb : E X C b mb) (hm : behindInMarks .In b = false := by first | rfl | exact nomark _) : E X C (.Compare a [.In] [b] pos) (mInK c F id ma mb) := by
  obtain ⟨f, fd, ps, sp, ds, dvs, hc, hmm, hbd, hd, hF, hs⟩ := G
  exact PE.imp (pe_cmpR (op_inK hF hmm (ok.room.mono hj) hbd hd ok.passes) ha hb hm) fun σ H Q h => tInK_of ok hs h
theorem e_ninK (G : GMt X.prog X.w X.K X.mg X.base c "__contains__" 2 j F) (ok : Okc X C k) (hj : j ≤ k) (ha : E X C a ma) (hb : E X C b mb) (hm : behindInMarks .NotIn b = false := by first | rfl | exact nomark _) : E X C (.Compare a [.NotIn] [b] pos) (mInK c F not ma mb) := by
  obtain ⟨f, fd, ps, sp, ds, dvs, hc, hmm, hbd, hd, hF, hs⟩ := G
  exact PE.imp (pe_cmpR (op_notInK hF hmm (ok.room.mono hj) hbd hd ok.passes) ha hb hm) fun σ H Q h => tInK_of ok hs h
theorem b_inK (G : GMt X.prog X.w X.K X.mg X.base c "__contains__" 2 j F) (ok : Okc X C k) (hj : j ≤ k) (ha : E X C a ma) (hb : E X C b mb) (hm : behindInMarks .In b = false := by first | rfl | exact nomark _) : EB X C (.Compare a [.In] [b] pos) (bOf (mInK c F id ma mb)) := by
  obtain ⟨f, fd, ps, sp, ds, dvs, hc, hmm, hbd, hd, hF, hs⟩ := G
  exact PT.imp (pt_cmpR (op_inK hF hmm (ok.room.mono hj) hbd hd ok.passes) ha hb hm) fun σ H Q h => tInK_of ok hs (bOf_te h)
theorem b_ninK (G : GMt X.prog X.w X.K X.mg X.base c "__contains__" 2 j F) (ok : Okc X C k) (hj : j ≤ k) (ha : E X C a ma) (hb : E X C b mb) (hm : behindInMarks .NotIn b = false := by first | rfl | exact nomark _) : EB X C (.Compare a [.NotIn] [b] pos) (bOf (mInK c F not ma mb)) := by
  obtain ⟨f, fd, ps, sp, ds, dvs, hc, hmm, hbd, hd, hF, hs⟩ := G
  exact PT.imp (pt_cmpR (op_notInK hF hmm (ok.room.mono hj) hbd hd ok.passes) ha hb hm) fun σ H Q h => tInK_of ok hs (bOf_te h)
end

/-! ### raise X() of an own class -/
/-- the class c: an exception without own __init__ -/
def GXc (K : PySem.W.Frag) (mg : Str → Option Value) (c : Str) : Prop := ∃ (bmB : List Value) (Bn newId initId : String), ExcBaseFacts Bn newId initId bmB ∧ PySem.W.excIn K (He.ga K c) bmB newId = true ∧ mg c = some (.ref (He.ga K c)) ∧ PySem.W.keepIn K (.ref (He.ga K c)) = true ∧
  PySem.W.subIn K (.ref (He.ga K c)) (.type "BaseException") = some true ∧ PySem.W.typeIn K (.ref (He.ga K c)) = some (.type "type")
theorem pmk_own0 {X : Cx} {A : Addr} {bmB : List Value} {Bn newId initId : String} {x : Str} {p pos : Pos} (F : ExcBaseFacts Bn newId initId bmB) (q : PySem.W.excIn X.K A bmB newId = true) (gC : X.mg x = some (.ref A)) (kC : PySem.W.keepIn X.K (.ref A) = true)
    (r : Raises X (.ref A)) (hg : Gl X x) (hdb : (x == ("__debug__" : Str)) = false := by decide) : L2N.PMk X (.Call (.Name x p) [] [] pos) (fun _ H Q => Q (.ref A) none H) := by
  intro pins s σ H Q I h
  refine wpAny_Call_Name_kw (ld_glob I hg gC ?_ hdb)
  refine PySem.W.callWith_K0 I.kIn kC ?_
  show wpAny _ _ (call (.ref A) []) _ _ _
  obtain ⟨bm, N, nm, qn, bs, hdct, sn, sub, ab, col, dd, k0, k1, k2, k3, k5, mN, hC, hN, hni, T⟩ := exc_obj I.kIn q
  refine wpAny_call_exc_subT F T hC hN hni (fun h' e hm => ?_) (by show 0 ≤ sizeLine; exact Nat.zero_le _)
  exact L2N.mk_of I hm r h (I.hok.gone hm.new)
def sRaise0 (c : Str) : MS := fun env S => .err ⟨c, [], []⟩ env S
theorem s_raise0 {X : Cx} {C : Ctx} {k : Nat} {c : Str} {p pos pos' : Pos} (ok : Okc X C k) (G : GXc X.K X.mg c) (hg : Gl X c := by rfl) (hdb : (c == ("__debug__" : Str)) = false := by decide) : ES X C (.Raise (some (.Call (.Name c p) [] [] pos')) none pos) (sRaise0 c) := by
  obtain ⟨bmB, Bn, newId, initId, F, h1, h2, h3, h4, h5⟩ := G
  refine PS.imp (L2N.ps_raise ok.calm ok.tk (pmk_own0 F h1 h2 h3 (raises_own h4 h5) hg hdb)) fun N σ H ⟨B, W, L, env, S, m, p⟩ => ?_
  exact p W L σ H _ none (Wd.Le.refl W) m ⟨by rw [ok.hK], .inl ⟨rfl, rfl⟩⟩
end Vf
/-! Vf11: while an exception is handled: a list comprehension over range. -/
namespace Vf
open PySem PySem.Spec PyProof.Rows L2 L2H HotX

/-- an iterator that may come to its end while an exception is handled -/
structure TurnZ (P : Program) (w : World) (K : PySem.W.Frag) (tg : Expr) (J : It) (fp : List Addr) (it : Addr) (tn : Nat → Heap → Prop) : Prop where
  obj : ∀ i h, tn i h → ∀ b ∈ fp, ∃ o, h.get? b = some o ∧ ∀ v, o.data ≠ .cell v
  keep : ∀ i h h', tn i h → (∀ b ∈ fp, ∀ o, h.get? b = some o → h'.get? b = some o) → tn i h'
  self : ∀ (A : Around) (i : Nat) (s : Shared) (Q E : Value → Shared → Prop), tn i s.heap → Q (.ref it) s → wpAny (model P w) A (pyIter (.ref it)) Q E s
  more : ∀ (Y : Cx), Y.prog = P → Y.w = w → Y.K = K → ∀ (i : Nat) (pins : List (Addr × Obj)) (s : Shared) (τ : St) (H : Hp) (E : Value → Shared → Prop), Inv Y pins τ H s → (∀ b ∈ fp, FpOk Y pins H b) → tn i s.heap → J.go i H →
    wpAny (model P w) Y.A (pyNext (.ref it)) (fun r s1 => ∃ u, r = some u ∧ wpAny (model P w) Y.A (letOwnedTupleGo tg (.ref it) u)
      (fun _ s2 => ∃ x H', Inv Y pins τ H' s2 ∧ RelV x u ∧ J.yld i H x H' ∧ tn (i + 1) s2.heap ∧ ∀ b ∈ fp, H' b = none) E s1) E s
  stop : ∀ (Y : Cx), Y.prog = P → Y.w = w → Y.K = K → ∀ (x1 : Addr) (i : Nat) (pins : List (Addr × Obj)) (s : Shared) (τ : St) (H : Hp) (E : Value → Shared → Prop), HotAt Y.A x1 s.heap → Inv Y pins τ H s → (∀ b ∈ fp, FpOk Y pins H b) → tn i s.heap →
    J.stop i H → wpAny (model P w) Y.A (pyNext (.ref it)) (fun r s1 => r = none ∧ Inv Y pins τ H s1) E s
/-- where range's iterator stands -/
abbrev rgAt (it : Addr) (lo : Int) (n : Nat) : Nat → Heap → Prop := fun i h => IsRangeIter h it (lo + (i : Nat) * 1) ((n : Int) - (i : Nat)) 1
theorem rgAt_succ {it : Addr} {lo : Int} {n i : Nat} {h : Heap} (q : IsRangeIter h it (lo + ((i : Nat) : Int) * 1 + 1) ((n : Int) - ((i : Nat) : Int) - 1) 1) : rgAt it lo n (i + 1) h := by
  unfold rgAt
  have a : lo + ((i + 1 : Nat) : Int) * 1 = lo + ((i : Nat) : Int) * 1 + 1 := by omega
  have b : (n : Int) - ((i + 1 : Nat) : Int) = (n : Int) - ((i : Nat) : Int) - 1 := by omega
  rw [a, b]; exact q
theorem turnZ_range {P : Program} {w : World} {K : PySem.W.Frag} {tg : Expr} (it : Addr) (lo : Int) (n : Nat) : TurnZ P w K tg (Itr lo n) [it] it (rgAt it lo n) where
  obj := fun i h q b hb => by
    rw [List.mem_singleton] at hb
    subst hb
    exact ⟨_, q, fun v z => nomatch z⟩
  keep := fun i h h' q k => k it List.mem_cons_self _ q
  self := fun _ _ _ _ _ q k => wpAny_pyIter_rangeiter q k
  more := fun Y e1 e2 e3 i pins s τ H E I ff q go => by
    subst e1 e2 e3
    obtain ⟨z0, z1, z2, z3, z4, z5⟩ := ff it List.mem_cons_self
    have lt : i < n := go
    refine wpAny_pyNext_range_item q (by omega) fun hp q' same => ?_
    have J : Inv Y pins τ H { s with heap := hp, toks := s.toks + 1 } := I.turned (fun b o hb e => (same.2 b hb).trans e) z0 z1 z3 z4 z5
    refine ⟨_, rfl, go_of (s := { s with heap := hp, toks := s.toks + 1 }) (n := "range_iterator") q' rfl rfl (by decide) ?_⟩
    refine ⟨.int (lo + i), H, J, ⟨s.toks, by rw [Int.mul_one]⟩, ⟨rfl, rfl⟩, rgAt_succ q', fun b hb => (ff b hb).1⟩
  stop := fun Y e1 e2 e3 x1 i pins s τ H E hot I ff q st => by
    subst e1 e2 e3
    obtain ⟨z0, z1, z2, z3, z4, z5⟩ := ff it List.mem_cons_self
    exact pyNext_range_end_hot hot q (by have : n ≤ i := st; omega) fun hp eb => ⟨rfl, I.turned (t' := s.toks) (fun b o _ e => eb b o e) z0 z1 z3 z4 z5⟩
/-- what is walked there -/
def PIEZ (X : Cx) (pins : List (Addr × Obj)) (σ : St) (tg : Expr) (R : It → Hp → Prop) (v : Value) (s2 : Shared) : Prop :=
  ∃ (it : Addr) (fp : List Addr) (tn : Nat → Heap → Prop) (J : It) (H' : Hp), v = .ref it ∧ Inv X pins σ H' s2 ∧ TurnZ X.prog X.w X.K tg J fp it tn ∧ tn 0 s2.heap ∧ (∀ b ∈ fp, FpOk X pins H' b) ∧ R J H'
structure PIZ (X : Cx) (tg iter : Expr) (wi : TI) : Prop where
  run : ∀ (pins : List (Addr × Obj)) (s : Shared) (σ : St) (H : Hp) (R : It → Hp → Prop), Inv X pins σ H s → wi σ H R → wpAny (model X.prog X.w) X.A (eval iter X.env)
    (fun v s1 => wpAny (model X.prog X.w) X.A (pyIter v) (PIEZ X pins σ tg R) X.xe s1) X.xe s
theorem range_itZ {X : Cx} {tg : Expr} {pins : List (Addr × Obj)} {σ : St} {H : Hp} {s : Shared} {R : It → Hp → Prop} {E : Value → Shared → Prop} {hi : Int} {t u v : Tok} {tk : Nat} (I : Inv X pins σ H s) (h1 : -(2 ^ 62) ≤ hi) (h2 : hi < 2 ^ 62) (q : R (Itr 0 hi.toNat) H) :
    wpAny (model X.prog X.w) X.A (pyIter (.ref s.heap.objs.size)) (PIEZ X pins σ tg R) E { s with heap := s.heap.push { cls := .type "range", data := .fields #[.int 0 t, .int hi u, .int 1 v] }, toks := tk } := by
  refine wpAny_pyIter_range (IsRange.new ..) (small_one (by decide) (by decide) h1 h2) ?_
  have J : Inv X pins σ H { s with heap := s.heap.push { cls := .type "range", data := .fields #[.int 0 t, .int hi u, .int 1 v] }, toks := tk } := I.kept fun b o e => Heap.get?_push_of_some _ e
  refine ⟨_, [(s.heap.push { cls := .type "range", data := .fields #[.int 0 t, .int hi u, .int 1 v] }).objs.size], _, _, H, rfl, J.kept (t' := tk) fun b o e => Heap.get?_push_of_some _ e, turnZ_range _ 0 hi.toNat, ?_, fun b hb => ?_, q⟩
  · have a : (0 : Int) + ((0 : Nat) : Int) * 1 = 0 := by simp
    have b : ((hi.toNat : Nat) : Int) - ((0 : Nat) : Int) = Builtin.Range.rangeSize 0 hi 1 := by rw [rangeSize_one]; split <;> omega
    show IsRangeIter _ _ ((0 : Int) + ((0 : Nat) : Int) * 1) (((hi.toNat : Nat) : Int) - ((0 : Nat) : Int)) 1
    rw [a, b]
    exact Heap.get?_push_size _ rfl
  · rw [List.mem_singleton] at hb
    subst hb
    exact J.fpOk (Nat.le_refl _) (J.hok.fresh (Nat.le_refl _))
theorem piZ_range {X : Cx} {tg a : Expr} {ta : TA} {p pos : Pos} (hg : Gl X "range") (hm : X.mg "range" = none) (ha : PA X [a] ta) (hs : starEach [a] X.env = [(false, eval a X.env)] := by rfl) : PIZ X tg (.Call (.Name "range" p) [a] [] pos) (iRng1 ta) := by
  refine ⟨fun pins s σ H R I h => ?_⟩
  refine Call_ (ld_blt I hg hm boot_range (PyProof.Rows.callWith_type1 (thn (ha.run pos pins s σ H _ I h) fun us s1 ⟨vs, H1, I1, r1, q1⟩ => ?_) hs rfl))
  obtain ⟨j, rfl, a1, a2, q⟩ := q1
  obtain ⟨u, rfl, ru⟩ := r1.one
  obtain ⟨t, rfl⟩ := ru
  exact call_range_1 (range_itZ I1 a1 a2 q)
section
variable {X : Cx}
/-- [elt for tg in iter if ..] while an exception is handled -/
theorem lc_coreZ {elt tg iter : Expr} {ifs : List Expr} {scope : Scope} {own : List (Str × Nat)} {pos pos' : Pos} {wi : TI} {g : TG} {tt : TT} {te : TE} {use : Option (Value → Sem Unit)} {Qf : Value → Shared → Prop} {pins : List (Addr × Obj)} {s : Shared} {σ : St} {H : Hp} {Q : VK} (I : Inv X pins σ H s) (hot : HotC X) (hN : X.N.Nodup) (hi : PIZ X tg iter wi) (ok : BlkOk X.N X.env.scope scope own)
    (hg : ∀ (s : Shared) (H : Hp) (c : Addr) (cl : List (Str × Addr)) (fp : List Addr), PG (X.blk s H scope (compEnvC scope cl c X.env) fp) tg g) (ht : ∀ (s : Shared) (H : Hp) (c : Addr) (cl : List (Str × Addr)) (fp : List Addr), PTs (X.blk s H scope (compEnvC scope cl c X.env) fp) ifs tt)
    (he : ∀ (s : Shared) (H : Hp) (c : Addr) (cl : List (Str × Addr)) (fp : List Addr), PE (X.blk s H scope (compEnvC scope cl c X.env) fp) elt te) (hs : ∀ x, foldedSetIterable iter X.env x = pure x) (h : tLc wi g tt te (own.map (·.2)) σ H Q)
    (hRR : ∀ D c s' m H', Inv X pins σ H' s' → Q (.ref D) H' → s'.heap.Ns c m → FpOk X pins H' c → compPost (model X.prog X.w) X.A X.xe use Qf (.ref D) c (.ok .next) s') :
    wpAny (model X.prog X.w) X.A (comprehension (.ListComp elt [⟨tg, iter, ifs, 0⟩] scope pos) scope X.env pos' (newList []) false (eval iter X.env) use) Qf X.xe s := by
  have fr : ∀ y ∈ scope.names, y.2 = .free → ∃ c, X.env.cells.lookup y.1 = some c := fun y hy e => (ok.free y hy e).elim (fun k => I.ok.has _ (.inl k)) fun k => I.ok.has _ (.inr k)
  refine wpAny_comprehension_free rfl hs (closure_ok fr) ok.kind (fun y hy e => by rw [ok.uniq y hy, e]) (thn (hi.run pins s σ H _ I h) fun xv s1 hx => thn hx fun itv s2 h2 => ?_)
  obtain ⟨it, fp, tn, J, H2, rfl, I2, T, st2, f2, q⟩ := h2
  refine wpAny_newObj_type (newEnv_comp ?_) (Nat.zero_le _)
  obtain ⟨D, hD⟩ : ∃ D, s2.heap.objs.size = D := ⟨_, rfl⟩
  rw [hD]
  have hDn : H2 D = none := I2.hok.fresh (Nat.le_of_eq hD)
  obtain ⟨W, ⟨m0, w0⟩, turn⟩ := q D hDn
  obtain ⟨s3, hs3⟩ : ∃ s3 : Shared, { s2 with heap := s2.heap.push { cls := .type "list", data := .seq ([] : List Value).toArray } } = s3 := ⟨_, rfl⟩
  have h3 : s3.heap = s2.heap.push { cls := .type "list", data := .seq ([] : List Value).toArray } := by rw [← hs3]
  obtain ⟨H3, hH3⟩ : ∃ H3, upd H2 D (.lst []) = H3 := ⟨_, rfl⟩
  rw [hH3] at w0
  have I3 : Inv X pins σ H3 s3 := by
    rw [← hs3, ← hH3]
    refine I2.laid (t' := s2.toks) (fun b o e => Heap.get?_push_of_some _ e) (Nat.le_of_eq hD) ⟨Nat.zero_le _, [], 0, .nil, ?_⟩
    rw [← hD]
    exact Heap.get?_push_size _ rfl
  have f3 : ∀ b ∈ fp, FpOk X pins H3 b ∧ b < s3.heap.objs.size := fun b hb => by
    obtain ⟨o, e, _⟩ := T.obj _ _ st2 b hb
    have lt := Heap.lt_size e
    refine ⟨⟨?_, (f2 b hb).2⟩, by rw [h3, Heap.size_push]; exact Nat.lt_succ_of_lt lt⟩
    rw [← hH3, upd_ne (by rw [← hD]; exact Nat.ne_of_lt lt)]
    exact (f2 b hb).1
  have st3 : tn 0 s3.heap := T.keep _ _ _ st2 fun b _ o e => by rw [h3]; exact Heap.get?_push_of_some _ e
  have I4 := block_start I3 ok hN f3
  have pg := hg s3 H3 s3.heap.objs.size (cellsFrom (s3.heap.objs.size + 1) scope.names (cloFrom X.env.cells scope.names [])) fp
  have pt := ht s3 H3 s3.heap.objs.size (cellsFrom (s3.heap.objs.size + 1) scope.names (cloFrom X.env.cells scope.names [])) fp
  have pe := he s3 H3 s3.heap.objs.size (cellsFrom (s3.heap.objs.size + 1) scope.names (cloFrom X.env.cells scope.names [])) fp
  rw [hs3]
  show codeAny _ _ (.compStart (.ListComp elt [⟨tg, iter, ifs, 0⟩] scope pos) 0 (.ref it) (.ref D) (compEnvC scope (cellsFrom (s3.heap.objs.size + 1) scope.names (cloFrom X.env.cells scope.names [])) s3.heap.objs.size X.env))
    (compPost (model X.prog X.w) X.A X.xe use Qf (.ref D) s3.heap.objs.size) { s3 with heap := pushCells (s3.heap.push { cls := .type "dict", data := .dict #[] }) scope.names }
  obtain ⟨ce, hce⟩ : ∃ ce, compEnvC scope (cellsFrom (s3.heap.objs.size + 1) scope.names (cloFrom X.env.cells scope.names [])) s3.heap.objs.size X.env = ce := ⟨_, rfl⟩
  have cL : ce.locals = s3.heap.objs.size := by rw [← hce]; rfl
  rw [hce] at I4 pg pt pe ⊢
  obtain ⟨s4, hs4⟩ : ∃ s4 : Shared, { s3 with heap := pushCells (s3.heap.push { cls := .type "dict", data := .dict #[] }) scope.names } = s4 := ⟨_, rfl⟩
  have st4 : tn 0 s4.heap := T.keep _ _ _ st3 fun b _ o e => by rw [← hs4]; exact pushCells_keeps _ _ _ _ (Heap.get?_push_of_some _ e)
  rw [hs4] at I4 ⊢
  obtain ⟨Y, hY⟩ : ∃ Y, X.blk s3 H3 scope ce fp = Y := ⟨_, rfl⟩
  have pnY : Y.pn = [] := by rw [← hY]
  have stat : ∀ {τ : St} {H' : Hp} {s' : Shared}, Inv Y [] τ H' s' → (∀ b ∈ fp, H' b = none) → ∀ b ∈ fp, FpOk Y [] H' b := fun {τ H' s'} I' hn b hb => by
    subst hY
    exact ⟨hn b hb, (I'.ok.exf b hb).1, I'.ok.exfs b hb, .inl hb, fun x c e => (I'.ok.exf b hb).2 x c e, fun p hp => absurd (show p ∈ ([] : List (Addr × Obj)) ++ [] from hp) (by simp)⟩
  -- the state seen from outside
  have out : ∀ {τ : St} {H' : Hp} {s' : Shared}, Inv Y [] τ H' s' → Inv X pins σ H' s' := fun {τ H' s'} I' => by
    subst hY
    exact I3.call' (ch := fp) I'.os I'.base I'.hok I'.bare fun b hb => ⟨(f3 b hb).1.2.2.2.1, (f3 b hb).1.2.1, (f3 b hb).1.2.2.2.2.1, (f3 b hb).1.2.2.2.2.2⟩
  rw [hY] at I4 pg pt pe
  have AY : Y.A = X.A := by rw [← hY]
  have loop : codeAny (model X.prog X.w) X.A (.compLoop (.ListComp elt [⟨tg, iter, ifs, 0⟩] scope pos) 0 (.ref it) (.ref D) ce) (compPost (model X.prog X.w) X.A X.xe use Qf (.ref D) s3.heap.objs.size) s4 := by
    refine compLoop_any (fun n s' => ∃ i H', Inv Y [] (L2.wipe σ (own.map (·.2))) H' s' ∧ tn i s'.heap ∧ (∀ b ∈ fp, H' b = none) ∧ W i n H') ?_ m0 ⟨0, H3, I4, st4, fun b hb => (f3 b hb).1.1, w0⟩
    rintro n s5 ⟨i, H5, I5, st5, n5, w5⟩
    rcases turn i n H5 w5 with ⟨stop, qq⟩ | ⟨go, Nx, hNx, step⟩
    · obtain ⟨x1, hx1⟩ := hot.at (out I5)
      have td := T.stop Y (by rw [← hY]) (by rw [← hY]) (by rw [← hY]) x1 i [] s5 _ H5 (fun _ _ => False) (by rw [AY]; exact hx1) I5 (stat I5 n5) st5 stop
      rw [AY] at td
      refine thnF td fun r s6 ⟨hr, I6⟩ => ?_
      subst hr
      obtain ⟨m, hn, _⟩ := I6.loc
      have cY : Y.env.locals = s3.heap.objs.size := by rw [← hY]; exact cL
      rw [cY] at hn
      have nC : H5 s3.heap.objs.size = none := by rw [← cY]; exact I6.free
      exact hRR D s3.heap.objs.size s6 m H5 (out I6) qq hn (I3.fpOk (Nat.le_refl _) nC)
    · have ti := T.more Y (by rw [← hY]) (by rw [← hY]) (by rw [← hY]) i [] s5 _ H5 (fun _ _ => False) I5 (stat I5 n5) st5 go
      rw [AY] at ti
      refine thnF ti fun r s6 ⟨u, hr, h6⟩ => ?_
      subst hr
      refine thnF h6 fun _ s7 ⟨x, H7, I7, r7, y7, st7, n7⟩ => ?_
      have P7 := I7.pinned (stat I7 n7) (T.obj _ _ st7)
      have fin : ∀ {σ8 : St} {s' : Shared} {H' : Hp}, L2.wipe σ8 (own.map (·.2)) = L2.wipe σ (own.map (·.2)) → Inv Y ([] ++ pinsAt fp s7.heap) σ8 H' s' → Nx H' →
          ∃ m, m < n ∧ ∃ i H', Inv Y [] (L2.wipe σ (own.map (·.2))) H' s' ∧ tn i s'.heap ∧ (∀ b ∈ fp, H' b = none) ∧ W i m H' := fun {σ8 s' H'} hw I' nx => by
        obtain ⟨m', hm, w'⟩ := hNx H' nx
        have pin' : ∀ b ∈ fp, ∀ o, s7.heap.get? b = some o → s'.heap.get? b = some o ∧ H' b = none := fun b hb o e =>
          let z := I'.pin (b, o) (List.mem_append_right _ (List.mem_append_right _ (mem_pinsAt hb e)))
          ⟨z.1, z.2.1⟩
        refine ⟨m', hm, i + 1, H', (I'.unpinned (pins := [])).weak (by rw [← hw, wipe_length]) (fun j v e => ?_), T.keep _ _ _ st7 fun b hb o e => (pin' b hb o e).1, fun b hb => ?_, w'⟩
        · rw [← hw] at e
          exact (wipe_some e).1
        · obtain ⟨o, e, _⟩ := T.obj _ _ st7 b hb
          exact (pin' b hb o e).2
      have g1 := pg.run _ s7 _ H7 x u _ P7 r7 (step x H7 y7)
      subst hY
      refine thnF g1 fun _ s8 ⟨σ8, H8, I8, hw8, q8⟩ => ?_
      refine thnF (pt.run _ s8 σ8 H8 _ I8 q8) fun b s9 ⟨H9, I9, q9⟩ => ?_
      cases b with
      | false =>
        simp only [Bool.false_eq_true, if_false] at q9 ⊢
        exact fin hw8 I9 q9
      | true =>
        simp only [if_true] at q9 ⊢
        refine thnF (pe.run _ s9 σ8 H9 _ I9 q9) fun z s10 ⟨yv, H10, I10, r10, acc, hD10, hz10, nx⟩ => ?_
        exact app_ok (X := X.blk s3 H3 scope ce fp) I10 hD10 hz10 r10 fun s11 I11 => fin hw8 I11 nx
  exact codeAny_compStart_list loop (T.self X.A 0 _ _ _ st4 loop)
theorem pe_lcZ {elt tg iter : Expr} {ifs : List Expr} {scope : Scope} {own : List (Str × Nat)} {pos : Pos} {wi : TI} {g : TG} {tt : TT} {te : TE} (hot : HotC X) (hN : X.N.Nodup) (hi : PIZ X tg iter wi) (ok : BlkOk X.N X.env.scope scope own)
    (hg : ∀ (s : Shared) (H : Hp) (c : Addr) (cl : List (Str × Addr)) (fp : List Addr), PG (X.blk s H scope (compEnvC scope cl c X.env) fp) tg g) (ht : ∀ (s : Shared) (H : Hp) (c : Addr) (cl : List (Str × Addr)) (fp : List Addr), PTs (X.blk s H scope (compEnvC scope cl c X.env) fp) ifs tt)
    (he : ∀ (s : Shared) (H : Hp) (c : Addr) (cl : List (Str × Addr)) (fp : List Addr), PE (X.blk s H scope (compEnvC scope cl c X.env) fp) elt te) (hs : ∀ x, foldedSetIterable iter X.env x = pure x) : PE X (.ListComp elt [⟨tg, iter, ifs, 0⟩] scope pos) (tLc wi g tt te (own.map (·.2))) := by
  refine ⟨fun pins s σ H Q I h => ?_⟩
  rw [eval_ListComp]
  refine lc_coreZ I hot hN hi ok hg ht he hs h fun D c s' m H' J q hn ⟨z0, z1, z2, z3, z4, z5⟩ => ⟨m, hn, fun h'' sb => ?_⟩
  exact ⟨.ref D, H', J.turned (t' := s'.toks) (fun b o hb e => (sb.2 b hb).trans e) z0 z1 z3 z4 z5, rfl, q⟩
/-- name = [..] on one line, the name a local -/
theorem ps_setLcZ {i : Nat} {y : Str} {py : Pos} {elt tg iter : Expr} {ifs : List Expr} {scope : Scope} {own : List (Str × Nat)} {pos spos : Pos} {wi : TI} {g : TG} {tt : TT} {te : TE} (hot : HotC X) (hN : X.N.Nodup) (hy : X.N[i]? = some y) (hyl : X.env.scope.names.lookup y = some .local)
    (hsw : swapsWith (.ListComp elt [⟨tg, iter, ifs, 0⟩] scope pos) (some (.Name y py)) spos.line X.env = pure true) (hi : PIZ X tg iter wi) (ok : BlkOk X.N X.env.scope scope own)
    (hg : ∀ (s : Shared) (H : Hp) (c : Addr) (cl : List (Str × Addr)) (fp : List Addr), PG (X.blk s H scope (compEnvC scope cl c X.env) fp) tg g) (ht : ∀ (s : Shared) (H : Hp) (c : Addr) (cl : List (Str × Addr)) (fp : List Addr), PTs (X.blk s H scope (compEnvC scope cl c X.env) fp) ifs tt)
    (he : ∀ (s : Shared) (H : Hp) (c : Addr) (cl : List (Str × Addr)) (fp : List Addr), PE (X.blk s H scope (compEnvC scope cl c X.env) fp) elt te) (hs : ∀ x, foldedSetIterable iter X.env x = pure x) :
    PS X (.Assign [.Name y py] (.ListComp elt [⟨tg, iter, ifs, 0⟩] scope pos) spos) (tAsg (tLc wi g tt te (own.map (·.2))) (gName i)) := by
  refine ⟨fun pins s σ H N I h => ?_⟩
  rw [exec_Assign_Name_used _ _ _ _ hsw]
  refine wpAny_bind (wpAny_standAt (wpAny_bind ?_))
  show wpAny _ X.A (do let _ ← comprehension (.ListComp elt [⟨tg, iter, ifs, 0⟩] scope pos) scope X.env (firstIterPos [⟨tg, iter, ifs, 0⟩] pos) (newList []) false (eval iter X.env) (some (assign (.Name y py) X.env))) _ _ s
  have h2 : tLc wi g tt te (own.map (·.2)) σ H (fun x H1 => gName i x σ H1 N.nx) := h
  refine wpAny_bind (thn (lc_coreZ (Qf := fun _ s' => SP X pins N .next s') I hot hN hi ok hg ht he hs h2 fun D c s' m H' J q hn f => ?_) fun _ s' hq => wpAny_pure (wpAny_pure hq))
  show wpAny _ _ (assign (.Name y py) X.env (.ref D)) _ _ _
  refine wpAny_assign_Name (store_ok2 (v := V.ref D) J hN hy (.inl hyl) rfl (fun s2 I2 ⟨a, sb, ha⟩ => ?_) (.inr hyl))
  obtain ⟨z0, z1, z2, z3, z4, z5⟩ := f
  have ne : c ≠ a := ha.elim (fun z => by rw [z]; exact z1) fun z e => z4 y a z e.symm
  exact ⟨m, hn.sameBut sb ne, fun h3 sb3 => ⟨_, H', I2.turned (t' := s2.toks) (fun b o hb e => (sb3.2 b hb).trans e) z0 z1 z3 z4 z5, q⟩⟩
end
end Vf
/-! Vf12: blocks; defs called while an exception is handled; try. -/
namespace Vf
open PySem PySem.Spec PyProof.Rows L2 L2H HotX

/-! ### blocks -/
theorem Okc.blk {X : Cx} {C : Ctx} {k : Nat} (ok : Okc X C k) (s : Shared) (H : Hp) (scope : Scope) (ce : Env) (fp : List Addr) : Okc (X.blk s H scope ce fp) C.quiet k :=
  ⟨ok.calm, ok.nd, ok.room, fun u s' h => by obtain ⟨_, _, _, _, _, _, _, _, _, _, _, _, _, _, _, _, z⟩ := h; exact z.elim, ok.hK⟩
theorem Okc.mono {X : Cx} {C : Ctx} {j k : Nat} (ok : Okc X C k) (h : j ≤ k) : Okc X C j := ⟨ok.calm, ok.nd, ok.room.mono h, ok.tk, ok.hK⟩

theorem _root_.L2H.RoomH.units {k : Nat} {A : Around} (r : RoomH k A) : A.units + 64 < cLine := by have := r.un; omega
/-! ### a body while an exception is handled -/
structure Okh (X : Cx) (C : Ctx) (k : Nat) : Prop where
  hot : HotC X
  nd : X.N.Nodup
  room : RoomH k X.A
  tk : L2N.Takes X (fun c d _ H => C.wish c d H)
  hK : X.K = C.K
section
variable {P : Program} {w : World} {K : PySem.W.Frag} {mg : Str → Option Value} {base : Heap}
theorem fnH_ok {x qual : Str} {params : Arguments} {body : List Stmt} {scope : Scope} {dvs : List V} {kws : List (Str × V)} {f : Addr} {fd : FuncData} {N ps : List Str} {k : Nat} {ms : MS} (F : FunD K x qual params body scope dvs kws f fd) (Sc : FnScope N ps scope)
    (hb : ∀ (X : Cx) (C : Ctx), X.prog = P → X.w = w → X.mg = mg → X.base = base → X.K = K → C.K = K → X.N = N → X.env.scope = scope → X.fn = (fun _ => true) → Okh X C k → ESs X C body ms) :
    FnH P w K mg base (L2N.CX P w) (k + 1) f fd ps (spOf K ps.length (fnOf N.length ms)) := by
  obtain ⟨oc, od, dV, kV, doc, pm, an, cdv, ct, osl, rfl, lk, hcd, _, _⟩ := F.ex
  refine fn_ofH lk hcd Sc (fun vs H Q E h => h.1) fun A outer s H vs Q E p hot hr ⟨hl, W, ds, S, m, r, q0⟩ => ?_
  have hpl : ps.length ≤ N.length := by have := congrArg List.length Sc.pre; rw [List.length_take] at this; omega
  refine ⟨_, hb (cxH (L2N.CX P w) P w K mg base N qual scope f cdv A outer s H E p) ⟨K, E⟩ rfl rfl rfl rfl rfl rfl rfl rfl rfl ⟨⟨p, hot, List.mem_singleton.mpr rfl⟩, Sc.nd, hr, L2N.takes_of rfl rfl rfl rfl, rfl⟩, ⟨H, W, none⟩, W, fun _ => 0, env0 N.length ds, S, sim_start m r (by omega), ?_⟩
  unfold fnOf at q0
  cases q : ms (env0 N.length ds) S with
  | next env S' => rw [q] at q0; exact fun W' L σ' H' l m' => q0 W' H' .non m'.toAft m'.s .non
  | ret d env S' => rw [q] at q0; exact fun W' L σ' H' v l m' rv => q0 W' H' v m'.toAft m'.s rv
  | retN d env S' => rw [q] at q0; exact fun W' L σ' H' p0 l m' w => q0 W' H' p0 m'.toAft m'.s w.at_ w.g w.nr w.h0
  | brk env S' => rw [q] at q0; exact q0.elim
  | cont env S' => rw [q] at q0; exact q0.elim
  | err x env S' => rw [q] at q0; exact fun W' L σ' H' cls dd l m' rx => q0 W' H' cls dd m'.toAft m'.s rx
  | stuck => rw [q] at q0; exact q0.elim
end
/-- the module's name x, called there with n values -/
def GFnH (P : Program) (w : World) (K : PySem.W.Frag) (mg : Str → Option Value) (base : Heap) (x : Str) (n k : Nat) (F : Fn) : Prop :=
  ∃ (f : Addr) (fd : FuncData) (ps : List Str), mg x = some (.ref f) ∧ PySem.W.keepIn K (.ref f) = true ∧ Binds K fd ps [] ∧ FnH P w K mg base (L2N.CX P w) k f fd ps (spOf K n F)
section
variable {X : Cx} {C : Ctx} {k j n : Nat} {F : Fn} {x : Str} {p pos : Pos} {e : Expr} {es : List Expr} {ma : M (List D)}
theorem e_callH (G : GFnH X.prog X.w X.K X.mg X.base x n j F) (ok : Okh X C k) (hj : j ≤ k) (ha : EA X C (e :: es) ma) (hg : Gl X x := by rfl) (hdb : (x == ("__debug__" : Str)) = false := by decide)
    (he : starEach (e :: es) X.env = (false, eval e X.env) :: starEach es X.env := by rfl) (hpl : (backTo pos (starEach es X.env)).any (·.1) = false := by rfl) : E X C (.Call (.Name x p) (e :: es) [] pos) (mCall n F ma) := by
  obtain ⟨f, fd, ps, hm, hk, hb, hF⟩ := G
  refine PE.imp (pe_callH (E := fun _ => C.wish) hF (ok.room.mono hj) ok.hot hg hm hk hb (fun σ => L2N.passAt ok.tk σ) ha hdb he hpl) fun σ H Q ⟨B, W, L, env, S, m, q⟩ => ?_
  exact ⟨B, W, L, env, S, m, (Post.bind q).mono fun ds W' env' S' H' le m' q v r => spOf_R ok.hK.symm m' r q⟩
end
/-! walks there -/
abbrev EIZ (X : Cx) (C : Ctx) (tg e : Expr) (m : M (List D)) : Prop := PIZ X tg e (tiOf C m)
theorem PIZ.imp {X : Cx} {tg e : Expr} {t t' : TI} (h : PIZ X tg e t) (k : ∀ σ H Q, t' σ H Q → t σ H Q) : PIZ X tg e t' := ⟨fun pins s σ H R I q => h.run pins s σ H R I (k σ H R q)⟩
theorem iz_range1 {X : Cx} {C : Ctx} {tg a : Expr} {p pos : Pos} {ma : M (List Opd)} (hm : X.mg "range" = none) (ha : EAO X C [a] ma) (hg : Gl X "range" := by rfl) (hs : starEach [a] X.env = [(false, eval a X.env)] := by rfl) : EIZ X C tg (.Call (.Name "range" p) [a] [] pos) (iR1 ma) := by
  refine PIZ.imp (piZ_range hg hm ha hs) fun σ H Q ⟨B, W, L, env, S, m0, p⟩ => ?_
  refine ⟨B, W, L, env, S, m0, (Post.bind p).mono fun os W' env' S' H' le m' q vs r => ?_⟩
  cases e : resL env' S' os with
  | none => simp only [e] at q; exact q.elim
  | some ds =>
    rw [e] at q
    match ds, e, q with
    | [.int j], e, q =>
      obtain ⟨v, rfl, rv⟩ := (m'.resL r e).one
      have := rv.int_inv
      subst this
      have q' : Post C B L σ W' (if Ok62 j = true then .ok (iOrd 0 j.toNat) env' S' else .stuck) _ := q
      by_cases hj : Ok62 j = true
      · rw [if_pos hj] at q'
        exact ⟨j, rfl, (Ok62.lo hj).1, (Ok62.lo hj).2, q' W' H' (Wd.Le.refl W') m' _ wk_ord⟩
      · rw [if_neg hj] at q'; exact q'.elim
theorem n_lcZ {X : Cx} {C : Ctx} {mi : M (List D)} {g : MT} {js : List Nat} {t : M Bool} {m : M D} {elt tg iter : Expr} {ifs : List Expr} {scope : Scope} {pos : Pos} (hot : HotC X) (hN : X.N.Nodup) (own : List (Str × Nat)) (ok : blkC X.N X.env.scope scope own = true) (hi : EIZ X C tg iter mi)
    (hg : ∀ (s : Shared) (H : Hp) (c : Addr) (cl : List (Str × Addr)) (fp : List Addr), EG (X.blk s H scope (compEnvC scope cl c X.env) fp) C.quiet tg g js) (ht : ∀ (s : Shared) (H : Hp) (c : Addr) (cl : List (Str × Addr)) (fp : List Addr), PTs (X.blk s H scope (compEnvC scope cl c X.env) fp) ifs (ttOf C.quiet t))
    (he : ∀ (s : Shared) (H : Hp) (c : Addr) (cl : List (Str × Addr)) (fp : List Addr), E (X.blk s H scope (compEnvC scope cl c X.env) fp) C.quiet elt m) (hjs : ∀ j ∈ js, j ∈ own.map (·.2) := by decide) (nd : (own.map (·.2)).Nodup := by decide)
    (hs : ∀ x, foldedSetIterable iter X.env x = pure x := by intro _; rfl) : EN X C (.ListComp elt [⟨tg, iter, ifs, 0⟩] scope pos) (nLc mi g (own.map (·.2)) t m) :=
  PE.imp (pe_lcZ hot hN hi (blkOk_by ok) hg ht he hs) fun σ H Q h => tLc_of hjs nd h

theorem s_setLcZ {X : Cx} {C : Ctx} {mi : M (List D)} {g : MT} {js : List Nat} {t : M Bool} {m : M D} {elt tg iter : Expr} {ifs : List Expr} {scope : Scope} {pos spos py : Pos} {y : Str} (i : Nat) (hot : HotC X) (hN : X.N.Nodup) (own : List (Str × Nat)) (ok : blkC X.N X.env.scope scope own = true)
    (hsw : swapsWith (.ListComp elt [⟨tg, iter, ifs, 0⟩] scope pos) (some (.Name y py)) spos.line X.env = pure true) (hi : EIZ X C tg iter mi)
    (hg : ∀ (s : Shared) (H : Hp) (c : Addr) (cl : List (Str × Addr)) (fp : List Addr), EG (X.blk s H scope (compEnvC scope cl c X.env) fp) C.quiet tg g js) (ht : ∀ (s : Shared) (H : Hp) (c : Addr) (cl : List (Str × Addr)) (fp : List Addr), PTs (X.blk s H scope (compEnvC scope cl c X.env) fp) ifs (ttOf C.quiet t))
    (he : ∀ (s : Shared) (H : Hp) (c : Addr) (cl : List (Str × Addr)) (fp : List Addr), E (X.blk s H scope (compEnvC scope cl c X.env) fp) C.quiet elt m) (hjs : ∀ j ∈ js, j ∈ own.map (·.2) := by decide) (nd : (own.map (·.2)).Nodup := by decide)
    (hy : X.N[i]? = some y := by rfl) (hyl : X.env.scope.names.lookup y = some .local := by rfl) (hs : ∀ x, foldedSetIterable iter X.env x = pure x := by intro _; rfl) :
    ES X C (.Assign [.Name y py] (.ListComp elt [⟨tg, iter, ifs, 0⟩] scope pos) spos) (sSet i (nLc mi g (own.map (·.2)) t m)) := by
  refine PS.imp (ps_setLcZ hot hN hy hyl hsw hi (blkOk_by ok) hg ht he hs) fun N σ H ⟨B, W, L, env, S, m0, p⟩ => ?_
  refine tLc_of hjs nd ⟨B, W, L, env, S, m0, (post_toS p).mono2 fun d W' env' S' H' le m' q p0 w => ?_⟩
  obtain ⟨W2, l2, m2, r⟩ := m'.frzOwn w
  have q2 := q W2 H' l2 m2
  by_cases hl : i < env'.length
  · rw [if_pos hl] at q2
    exact q2 W2 L _ H' (Wd.Le.refl W2) (m2.setVal r hl)
  · rw [if_neg hl] at q2; exact q2.elim

/-! ### isinstance(e, T), e the exception at a that the suite holds in slot i -/
def mExc (i : Nat) (a : Addr) (b : Bool) : M D := fun env S => match env[i]? with
  | some (.val (.adr q)) => if q = a then .ok (.bl b) env S else .stuck
  | _ => .stuck
theorem e_isE {X : Cx} {C : Ctx} {a A : Addr} {oe : Obj} {pn : List (Addr × Obj)} {b : Bool} (i : Nat) {x c : Str} {u : V} {cv : Value} {p p2 p3 pos : Pos} (hX : ExcC X.K A) (hz : Zc (.ref A) none oe) (hf : ∃ vs, oe.data = .fields vs)
    (hk : PySem.W.kitOne X.K (.ref A) cv = some b) (hc : PE (X.suite a ((a, oe) :: pn)) (.Name c p3) (tC u)) (hu : ∀ w, RelV u w → w = cv) (hm : X.mg "isinstance" = none)
    (hg : Gl X "isinstance" := by rfl) (hN : X.N[i]? = some x := by rfl) (hv : Vis X.env.scope x := by first | exact Or.inl rfl | exact Or.inr (Or.inl rfl) | exact Or.inr (Or.inr rfl)) (hd : (x == ("__debug__" : Str)) = false := by decide) (hcd : (x == ("__classdict__" : Str)) = false := by decide)
    (hs : starEach [.Name x p2, .Name c p3] X.env = (false, eval (.Name x p2) X.env) :: starEach [.Name c p3] X.env := by rfl) (hs2 : starEach [.Name c p3] X.env = (false, eval (.Name c p3) X.env) :: starEach [] X.env := by rfl)
    (hpl : (backTo pos (starEach [.Name c p3] X.env)).any (·.1) = false := by rfl) : E (X.suite a ((a, oe) :: pn)) C (.Call (.Name "isinstance" p) [.Name x p2, .Name c p3] [] pos) (mExc i a b) := by
  refine PE.imp (pe_callB (call_isE hX hz hf) hg hm rfl (pa_cons (pe_var (i := i) (x := x) hN hv hd hcd) (pa_cons hc pa_nil hs2) hs) (he := hs) (hpl := hpl)) fun σ H Q ⟨B, W, L, env, S, m, q⟩ => ?_
  unfold mExc at q
  cases e : env[i]? with
  | none => rw [e] at q; exact q.elim
  | some s =>
    rw [e] at q
    cases s with
    | none => exact q.elim
    | loc d => exact q.elim
    | val d =>
      cases d with
      | adr y =>
        have q' : Post C B L σ W (if y = a then .ok (D.bl b) env S else .stuck) _ := q
        by_cases hy : y = a
        · rw [if_pos hy] at q'
          subst hy
          obtain ⟨v, hv, rv⟩ := m.val i _ e
          exact ⟨v, hv, u, cv, b, by rw [rv.adr_inv], hu, hk, q' W H (Wd.Le.refl W) m _ (.bl b)⟩
        · rw [if_neg hy] at q'; exact q'.elim
      | _ => exact q.elim

/-! ### try: body; except c as n: a suite that hands a value out -/
/-- all slots forgotten -/
theorem Sim.clear {K : PySem.W.Frag} {B : Bs} {W : Wd} {L : Nat → Addr} {env : List Slot} {S : List D} {σ : St} {H : Hp} (m : Sim K B W L env S σ H) {n : Nat} {τ : St} (h : τ.length = n) : Sim K B W L (List.replicate n .none) S τ H := by
  have no : ∀ {i : Nat} {s : Slot}, (List.replicate n Slot.none)[i]? = some s → s = .none := fun {i s} e => by
    rw [List.getElem?_replicate] at e
    split at e
    · exact (Option.some.inj e).symm
    · cases e
  exact ⟨m.s, fun i d e => (by cases no e), fun i d e => (by cases no e), fun i j c c' e => (by cases no e), m.le, m.new, m.newrho, m.kept, by rw [List.length_replicate, h], m.pin⟩
def hEnv (n i : Nat) (a : Addr) : List Slot := (List.replicate n Slot.none).set i (.val (.adr a))
/-- hd: what the suite hands out, by the exception and the cells -/
def sTry (n : Nat) (xs : List Str) (hd : Str → List D → Option (D × List D)) (body : MS) : MS := fun env S => match body env S with
  | .err x _ S' => if x.cls ∈ xs ∧ x.ns = [] then (match hd x.cls S' with
    | some (d, S2) => .ret d (List.replicate n .none) S2
    | none => .stuck) else .stuck
  | r => r
theorem Takes.len {X : Cx} {W W' : WX} (t : L2N.Takes X W) (h : ∀ c d (σ : St) H, σ.length = X.N.length → W' c d σ H → W c d σ H) : L2N.Takes X W' := fun u s' ⟨a, B, sI, pins, σ, H, cls, d, e, I, nb, up, sky, na, os, ag, w⟩ =>
  t u s' ⟨a, B, sI, pins, σ, H, cls, d, e, I, nb, up, sky, na, os, ag, h _ _ _ _ I.len w⟩
/-- the suite's context -/
def suC (K : PySem.W.Frag) : Ctx := ⟨K, fun _ _ _ => False⟩
theorem s_try {X : Cx} {C : Ctx} {k : Nat} (i : Nat) {xs : List Str} {hd : Str → List D → Option (D × List D)} {body suite : List Stmt} {b₀ : Stmt} {x n : Str} {cv : Value} {np pos pos' : Pos} {mb : MS} {m : Str → Addr → MS} (ok : Oks X C k)
    (hc : Names X x cv) (hcls : ∀ c ∈ xs, PySem.W.exmOne X.K (.ref (He.ga X.K c)) cv = some true)
    (hb : ∀ (wish : XK) (pn : List (Addr × Obj)) (xe : Value → Shared → Prop), Oks (X.tr pn xe) ⟨C.K, wish⟩ k → ESs (X.tr pn xe) ⟨C.K, wish⟩ body mb)
    (hsu : ∀ (a : Addr) (oe : Obj) (c : Str) (pn : List (Addr × Obj)), c ∈ xs → HotC (X.suite a ((a, oe) :: pn)) → Zc (.ref (He.ga X.K c)) none oe → (∃ vs, oe.data = .fields vs) → Okh (X.suite a ((a, oe) :: pn)) (suC C.K) k → ESs (X.suite a ((a, oe) :: pn)) (suC C.K) (b₀ :: suite) (m c a))
    (hh : ∀ c a S d S2, hd c S = some (d, S2) → ∃ env2, m c a (hEnv X.N.length i a) S = .ret d env2 S2) (hroom : RoomH k X.A)
    (hi : X.N[i]? = some n := by rfl) (hln : X.env.kindOf n = some .local := by rfl) :
    ES X C (.Try body [.ExceptHandler (some (.Name x np)) (some n) (b₀ :: suite) pos'] [] [] pos) (sTry X.N.length xs hd mb) := by
  have hlt : i < X.N.length := (List.getElem?_eq_some_iff.mp hi).1
  have base := L2N.ps_try_as (X := X) (i := i) (n := n) (x := x) (c := cv) (np := np) (pos := pos) (pos' := pos') (body := body) (suite := suite) (b₀ := b₀) (Wout := fun c d _ H => C.wish c d H)
    (tb := fun W => tsOf ⟨C.K, fun c d H => ∀ σ : St, σ.length = X.N.length → W c d σ H⟩ mb)
    (ts := fun a cls d N σ H => ∃ c ∈ xs, cls = .ref (He.ga X.K c) ∧ d = none ∧ tsOf (suC C.K) (m c a) N σ H)
    ok.stk ok.frm ok.nd hi hln hc ok.tk
    (fun W pn xe tk po => hb (fun c d H => ∀ σ : St, σ.length = X.N.length → W c d σ H) pn xe ⟨⟨ok.calm, ok.nd, ok.room, Takes.len tk fun c d σ H hl h => h σ hl, ok.hK⟩, po, ok.stk, ok.frm⟩)
    (fun a oe cls d pn hz hf => ⟨fun pins s σ H N I ⟨c, hm, e1, e2, q⟩ => by
      subst e1 e2
      have hot : HotC (X.suite a ((a, oe) :: pn)) := by
        obtain ⟨vs, hv⟩ := hf
        exact ⟨(a, oe), ⟨rfl, vs, hv, hz.2.2 vs hv⟩, List.mem_cons_self⟩
      refine (hsu a oe c pn hm hot hz.zc hf ⟨hot, ok.nd, ⟨hroom.dp, hroom.un⟩, fun u s' h => ?_, ok.hK⟩).run pins s σ H N I q
      obtain ⟨_, _, _, _, _, _, _, _, _, _, _, _, _, _, _, _, z⟩ := h
      exact z.elim⟩)
  refine PS.imp base fun N σ H ⟨B, W, L, env, S, m0, p⟩ => ⟨B, W, L, env, S, m0, ?_⟩
  unfold sTry at p
  cases q : mb env S with
  | next env' S' => rw [q] at p; exact p
  | ret d env' S' => rw [q] at p; exact p
  | retN d env' S' => rw [q] at p; exact p
  | brk env' S' => rw [q] at p; exact p
  | cont env' S' => rw [q] at p; exact p
  | stuck => rw [q] at p; exact p
  | err y env' S' =>
    rw [q] at p
    have p : PostS C B W (if y.cls ∈ xs ∧ y.ns = [] then (match hd y.cls S' with
      | some (d, S2) => .ret d (List.replicate X.N.length .none) S2
      | none => .stuck) else .stuck) N := p
    by_cases hy : y.cls ∈ xs ∧ y.ns = []
    · rw [if_pos hy] at p
      cases q2 : hd y.cls S' with
      | none => rw [q2] at p; exact p.elim
      | some dS =>
        obtain ⟨d, S2⟩ := dS
        rw [q2] at p
        intro W' L' σ' H' cls dd le m' rx τ hτ
        obtain ⟨ecls, hdd⟩ := rx
        have hcl : PySem.W.exmOne X.K cls cv = some true := by rw [ecls, ← ok.hK]; exact hcls _ hy.1
        refine ⟨true, hcl, fun _ a ha => ?_, fun z => nomatch z⟩
        have hn : dd = none := by
          rcases hdd with h | ⟨d', vs, h, _⟩
          · exact h.1
          · exact absurd hy.2 h
        refine ⟨y.cls, hy.1, by rw [ecls, ok.hK], hn, B, W', L', hEnv X.N.length i a, S', ?_, ?_⟩
        · have m1 := m'.clear hτ
          exact m1.setVal (i := i) (d := .adr a) (.adr a) (by rw [List.length_replicate]; exact hlt)
        · obtain ⟨env2, e2⟩ := hh y.cls a S' d S2 q2
          rw [e2]
          intro W2 L2 σ2 H2 v l2 m2 rv
          exact p W2 L2 (List.replicate X.N.length none) H2 v (le.trans l2) (m2.clear (by simp)) rv
    · rw [if_neg hy] at p; exact p.elim
end Vf
/-! Vf13: the script walked, displays of dicts, minus, calls with one keyword, promises put together. -/
namespace Vf
open PySem PySem.Spec PyProof.Rows L2 L2H

theorem Rep.scr_inv {K : PySem.W.Frag} {G : Hp} {rho : List Addr} {v : V} {is : List Int} (h : Rep K G rho v (.scr is)) : ∃ p, v = .ref p ∧ SqL K G p (is.map V.int) := by
  cases h with
  | obj h r => cases r
  | scr h => exact ⟨_, rfl, h⟩
theorem wk_scr {K : PySem.W.Frag} {W : Wd} {p : Addr} {is : List Int} (h : SqL K W.G p (is.map V.int)) : Wk K W (Itl K p) (is.map D.int) := by
  have q : ∀ (W2 : Wd) (H : Hp), W.Le W2 → Fz W2 H → SqL K H p (is.map V.int) := fun W2 H l f => sqL_mono f (sqL_mono l.g h)
  have r : Reps K W.G W.rho (is.map V.int) (is.map D.int) := Reps.ints is
  refine ⟨fun W2 H i d l f e => ?_, fun W2 H i d x H' l f e y => ?_, fun W2 H l f => ⟨_, q W2 H l f, by rw [r.length]; exact Nat.le_refl _⟩⟩
  · obtain ⟨v, hv, _⟩ := r.get e
    exact ⟨_, v, q W2 H l f, hv⟩
  · obtain ⟨v, hv, rv⟩ := r.get e
    obtain ⟨rfl, y⟩ := y
    have e2 := y _ (q W2 _ l f)
    rw [hv] at e2; cases e2
    exact ⟨W2, .same (rv.mono l)⟩
def iScr (m : M D) : M (List D) := fun env S => (m env S).bind fun d env S => match d with
  | .scr is => .ok (is.map D.int) env S
  | _ => .stuck
theorem i_scr {X : Cx} {C : Ctx} {tg e : Expr} {m : M D} (h : E X C e m) (hK : X.K = C.K := by rfl) : EI X C tg e (iScr m) := by
  refine PI.imp (pi_list h) fun σ H R ⟨B, W, L, env, S, m0, p⟩ => ?_
  refine ⟨B, W, L, env, S, m0, (Post.bind p).mono fun d W' env' S' H' le m' q v r => ?_⟩
  cases d with
  | scr is =>
    obtain ⟨p0, rfl, hp⟩ := r.scr_inv
    rw [hK]
    exact ⟨p0, rfl, ⟨_, sqL_mono m'.s.ex hp⟩, q W' H' (Wd.Le.refl W') m' _ (wk_scr hp)⟩
  | _ => exact q.elim

/-! ### displays of dicts -/
theorem Post.ground {α : Type} {C : Ctx} {B : Bs} {L : Nat → Addr} {σ : St} {W : Wd} {r : Res α} {P : α → Wd → List Slot → List D → Hp → Prop} {p : Addr} {o : HO} (h : Post C B L σ W r P) (h0 : B.H0 p = none) (hr : p ∉ B.W0.rho) (hg : B.W0.G p = none) :
    Post C ⟨upd B.H0 p o, B.W0, B.self⟩ L σ W r P := by
  cases r with
  | ok a env S => exact fun W' H' l m => h W' H' l (m.unground h0 hr hg).1
  | err x env S => exact fun W' H' cls dd l m => h W' H' cls dd l (m.unground h0 hr hg).1
  | stuck => exact h
/-- the pairs: constant keys, values -/
structure EDs (X : Cx) (C : Ctx) (pos : Pos) (keys : List (Option Expr)) (values : List Expr) (ks : List Key) (m : M (List D)) : Prop where
  ex : ∃ trs, PPs X pos keys values trs ∧ ∀ σ H Q, taOf C m σ H (fun vs H' => vs.length = ks.length → Q ((ks.zip vs).map fun kv => (kV kv.1, kv.2)) H') → tPairs trs σ H Q
theorem ed_nil {X : Cx} {C : Ctx} {pos : Pos} : EDs X C pos [] [] [] aNil := ⟨[], pps_nil, fun σ H Q ⟨B, W, L, env, S, m, p⟩ => p W H (Wd.Le.refl W) m [] .nil rfl⟩
theorem ed_cons {X : Cx} {C : Ctx} {pos p2 : Pos} {x : Str} {j : Nat} {keys : List (Option Expr)} {v : Expr} {values : List Expr} {ks : List Key} {m : M D} {n : M (List D)} (hv : E X C v m) (hr : EDs X C pos keys values ks n) :
    EDs X C pos (some (.Constant (.str x) j p2) :: keys) (v :: values) (.inr x :: ks) (aCons m n) := by
  obtain ⟨trs, h1, h2⟩ := hr
  refine ⟨(tC (.str x), teOf C m) :: trs, pps_cons pe_str hv h1, fun σ H Q ⟨B, W, L, env, S, m0, p⟩ => ?_⟩
  refine ⟨B, W, L, env, S, m0, (Post.bind p).mono fun d W1 env1 S1 H1 le1 m1 p1 u ru => ?_⟩
  refine h2 σ H1 _ ⟨B, W1, L, env1, S1, m1, (Post.bind p1).mono fun ds W2 env2 S2 H2 le2 m2 p2 vs rs hl => ?_⟩
  exact p2 W2 H2 (Wd.Le.refl W2) m2 (u :: vs) (.cons (ru.mono le2) rs) (by rw [List.length_cons, List.length_cons, hl])
theorem merge_eq : ∀ (more acc : List (Key × V)), ((acc ++ more).map (·.1)).Nodup → mergeK acc more = acc ++ more
  | [], acc, _ => by simp [mergeK]
  | p :: r, acc, h => by
    have h1 : putK acc p.1 p.2 = acc ++ [p] := by
      unfold putK
      rw [if_neg]
      intro z
      obtain ⟨q, hq, e⟩ := List.any_eq_true.mp z
      rw [decide_eq_true_eq] at e
      rw [List.map_append, List.nodup_append] at h
      exact h.2.2 q.1 (List.mem_map_of_mem hq) p.1 (by simp) e
    show mergeK (putK acc p.1 p.2) r = _
    rw [h1, merge_eq r (acc ++ [p]) (by simpa using h)]
    simp
def nDict (ks : List Key) (m : M (List D)) : M D := fun env S => (m env S).bind fun ds env S => if ds.length = ks.length then .ok (.dk ks ds) env S else .stuck
theorem n_dict {X : Cx} {C : Ctx} {pos : Pos} {keys : List (Option Expr)} {values : List Expr} {ks : List Key} {m : M (List D)} (h : EDs X C pos keys values ks m) (hnd : ks.Nodup := by decide) (hall : keys.all (·.isSome) = true := by rfl) (hl : keys.length = values.length := by rfl)
    (h0 : keys ≠ [] := by exact List.cons_ne_nil _ _) (h15 : keys.length ≤ 15 := by decide) (hk : ks.length ≤ 15 := by decide) : EN X C (.Dict keys values pos) (nDict ks m) := by
  obtain ⟨trs, h1, h2⟩ := h
  refine PE.imp (pe_disp h1 hall hl h0 h15) fun σ H Q ⟨B, W, L, env, S, m0, p⟩ a ha => ?_
  obtain ⟨f1, f2, f3, f4⟩ := m0.free ha
  have hB : B.W0.G a = none ∧ a ∉ B.W0.rho := by
    refine ⟨?_, fun z => f2 (m0.le.r.subset z)⟩
    cases q0 : B.W0.G a with
    | none => rfl
    | some o => rw [m0.le.g a o q0] at f1; cases f1
  have mg := (m0.garb (o := .dK []) ha).ground upd_same f1 f2 f4
  refine h2 σ _ _ ⟨⟨upd B.H0 a (.dK []), B.W0, B.self⟩, W, L, env, S, mg, ((Post.bind p).ground f3 hB.2 hB.1).mono fun ds W' env' S' H' le m' q vs rs hlen => ?_⟩
  obtain ⟨m2, hp, g, nr, nl⟩ := m'.unground f3 hB.2 hB.1
  have q : Post C B L σ W' (if ds.length = ks.length then .ok (D.dk ks ds) env' S' else .stuck) _ := q
  have hd : ds.length = ks.length := by rw [← rs.length, hlen]
  rw [if_pos hd] at q
  have hz : ((ks.zip vs).map (·.1)) = ks := by rw [List.map_fst_zip (by omega)]
  refine ⟨hp, ks.zip vs, rfl, by rw [List.length_zip]; omega, ?_⟩
  rw [merge_eq _ _ (by rw [List.nil_append, hz]; exact hnd), List.nil_append]
  refine q W' _ (Wd.Le.refl W') (m2.off g nr nl f3) a ⟨⟨_, upd_same, .dk (by omega) rs⟩, g, nr, f3, nl⟩

/-! ### minus -/
def mNeg (m : M D) : M D := fun env S => (m env S).bind fun d env S => match d with
  | .int i => .ok (.int (-i)) env S
  | _ => .stuck
theorem e_neg {X : Cx} {C : Ctx} {e : Expr} {m : M D} {pos : Pos} (h : E X C e m) : E X C (.UnaryOp .USub e pos) (mNeg m) := by
  refine PE.imp (pe_un un_neg h) fun σ H Q ⟨B, W, L, env, S, m0, p⟩ => ?_
  refine ⟨B, W, L, env, S, m0, (Post.bind p).mono fun d W' env' S' H' le m' q v r => ?_⟩
  cases d with
  | int i => exact ⟨i, r.int_inv, q W' H' (Wd.Le.refl W') m' _ (.int _)⟩
  | _ => exact q.elim

/-! ### calls with keywords -/
def GFnK (P : Program) (w : World) (K : PySem.W.Frag) (mg : Str → Option Value) (base : Heap) (x : Str) (n : Nat) (ks : List Str) (k : Nat) (F : Fn) : Prop :=
  ∃ (f : Addr) (fd : FuncData) (ps : List Str) (sp : Sp) (g : List Value → List Value → List Value) (gV : List V → List V → List V), mg x = some (.ref f) ∧ PySem.W.keepIn K (.ref f) = true ∧ KBn K fd ps n ks g gV ∧ FnOk P w K mg base (L2N.CX P w) k f fd ps sp ∧
    ∀ vs zs H Q E, vs.length = n → zs.length = ks.length → spOf K (n + ks.length) F (vs ++ zs) H Q E → sp (gV vs zs) H Q E
structure EK (X : Cx) (C : Ctx) (kws : List Keyword) (m : M (List D)) : Prop where
  run : PK X kws (taOf C m)
theorem PK.imp {X : Cx} {e : List Keyword} {t t' : TA} (h : PK X e t) (k : ∀ σ H Q, t' σ H Q → t σ H Q) : PK X e t' := ⟨fun pos pins s σ H Q I q => h.run pos pins s σ H Q I (k σ H Q q)⟩
theorem k_one {X : Cx} {C : Ctx} {nm : Option Str} {e : Expr} {kpos : Pos} {m : M D} (h : E X C e m) : PK X [⟨nm, e, kpos⟩] (taOf C (aCons m aNil)) := by
  refine PK.imp (pk_cons h pk_nil) fun σ H Q ⟨B, W, L, env, S, m, p⟩ => ?_
  refine ⟨B, W, L, env, S, m, (Post.bind p).mono fun d W1 env1 S1 H1 le1 m1 p1 v r => ?_⟩
  exact p1 W1 H1 (Wd.Le.refl W1) m1 [v] (.cons r .nil)
def mCallK (n k : Nat) (F : Fn) (m mk : M (List D)) : M D := fun env S => (m env S).bind fun ds env S => (mk env S).bind fun es env S => if ds.length = n ∧ es.length = k then (F (ds ++ es) S).toR env else .stuck
def nCallK (n k : Nat) (F : Fn) (m mk : M (List D)) : M D := fun env S => (m env S).bind fun ds env S => (mk env S).bind fun es env S => if ds.length = n ∧ es.length = k then (F (ds ++ es) S).toN env else .stuck
section
variable {X : Cx} {C : Ctx} {k j n : Nat} {F : Fn} {x : Str} {p pos : Pos} {e : Expr} {es : List Expr} {ma mk : M (List D)} {kws : List Keyword} {ks : List Str}
theorem e_callK (G : GFnK X.prog X.w X.K X.mg X.base x n ks j F) (ok : Okc X C k) (hj : j ≤ k) (ha : EA X C (e :: es) ma) (hkw : PK X kws (taOf C mk)) (hg : Gl X x := by rfl) (hall : (backToKw pos (keywordEach kws X.env)).all (·.1.isSome) = true := by rfl)
    (hks : (backToKw pos (keywordEach kws X.env)).filterMap (·.1) = ks := by rfl) (hdb : (x == ("__debug__" : Str)) = false := by decide) (he : starEach (e :: es) X.env = (false, eval e X.env) :: starEach es X.env := by rfl)
    (hpl : ((backTo pos (starEach (e :: es) X.env)).any (·.1) || (backToKw pos (keywordEach kws X.env)).any (·.1.isNone)) = false := by rfl) : E X C (.Call (.Name x p) (e :: es) kws pos) (mCallK n ks.length F ma mk) := by
  obtain ⟨f, fd, ps, sp, g, gV, hm, hk, hb, hF, hs⟩ := G
  refine PE.imp (pe_callN hF (ok.room.mono hj) hg hm hk hb ok.passes ha hkw hall hks hdb he hpl) fun σ H Q ⟨B, W, L, env, S, m, q⟩ => ?_
  refine ⟨B, W, L, env, S, m, (Post.bind q).mono fun ds W1 env1 S1 H1 le1 m1 q1 vs r => ?_⟩
  refine ⟨B, W1, L, env1, S1, m1, (Post.bind q1).mono fun ds2 W2 env2 S2 H2 le2 m2 q2 zs r2 => ?_⟩
  have q2 : Post C B L σ W2 (if ds.length = n ∧ ds2.length = ks.length then (F (ds ++ ds2) S2).toR env2 else .stuck) _ := q2
  by_cases hl : ds.length = n ∧ ds2.length = ks.length
  · rw [if_pos hl] at q2
    have l1 : vs.length = n := by rw [r.length]; exact hl.1
    have l2 : zs.length = ks.length := by rw [r2.length]; exact hl.2
    refine ⟨l1, l2, hs _ _ _ _ _ l1 l2 (spOf_R ok.hK.symm m2 ((r.mono le2).append r2) ?_)⟩
    rw [if_pos (by rw [List.length_append, hl.1, hl.2])]
    exact q2
  · rw [if_neg hl] at q2; exact q2.elim
theorem n_callK (G : GFnK X.prog X.w X.K X.mg X.base x n ks j F) (ok : Okc X C k) (hj : j ≤ k) (ha : EA X C (e :: es) ma) (hkw : PK X kws (taOf C mk)) (hg : Gl X x := by rfl) (hall : (backToKw pos (keywordEach kws X.env)).all (·.1.isSome) = true := by rfl)
    (hks : (backToKw pos (keywordEach kws X.env)).filterMap (·.1) = ks := by rfl) (hdb : (x == ("__debug__" : Str)) = false := by decide) (he : starEach (e :: es) X.env = (false, eval e X.env) :: starEach es X.env := by rfl)
    (hpl : ((backTo pos (starEach (e :: es) X.env)).any (·.1) || (backToKw pos (keywordEach kws X.env)).any (·.1.isNone)) = false := by rfl) : EN X C (.Call (.Name x p) (e :: es) kws pos) (nCallK n ks.length F ma mk) := by
  obtain ⟨f, fd, ps, sp, g, gV, hm, hk, hb, hF, hs⟩ := G
  refine PE.imp (pe_callN hF (ok.room.mono hj) hg hm hk hb ok.passes ha hkw hall hks hdb he hpl) fun σ H Q ⟨B, W, L, env, S, m, q⟩ => ?_
  refine ⟨B, W, L, env, S, m, (Post.bind q).mono fun ds W1 env1 S1 H1 le1 m1 q1 vs r => ?_⟩
  refine ⟨B, W1, L, env1, S1, m1, (Post.bind q1).mono fun ds2 W2 env2 S2 H2 le2 m2 q2 zs r2 => ?_⟩
  have q2 : Post C B L σ W2 (if ds.length = n ∧ ds2.length = ks.length then (F (ds ++ ds2) S2).toN env2 else .stuck) _ := q2
  by_cases hl : ds.length = n ∧ ds2.length = ks.length
  · rw [if_pos hl] at q2
    have l1 : vs.length = n := by rw [r.length]; exact hl.1
    have l2 : zs.length = ks.length := by rw [r2.length]; exact hl.2
    refine ⟨l1, l2, hs _ _ _ _ _ l1 l2 (spOf_N ok.hK.symm m2 ((r.mono le2).append r2) ?_)⟩
    rw [if_pos (by rw [List.length_append, hl.1, hl.2])]
    exact q2
  · rw [if_neg hl] at q2; exact q2.elim
end

/-! ### promises put together -/
section
variable {P : Program} {w : World} {K : PySem.W.Frag} {mg : Str → Option Value} {base : Heap}
theorem GFn.of {x qual : Str} {params : Arguments} {body : List Stmt} {scope : Scope} {kws : List (Str × V)} {f : Addr} {fd : FuncData} {N ps : List Str} {k : Nat} {ms : MS} (F : FunD K x qual params body scope [] kws f fd) (Sc : FnScope N ps scope) (hm : mg x = some (.ref f)) (hbd : Binds K fd ps [])
    (hb : ∀ (X : Cx) (C : Ctx), X.prog = P → X.w = w → X.mg = mg → X.base = base → X.K = K → C.K = K → X.N = N → X.env.scope = scope → X.fn = (fun _ => true) → Oks X C k → ESs X C body ms) : GFn P w K mg base x ps.length (k + 1) (fnOf N.length ms) :=
  ⟨f, fd, ps, _, [], [], hm, F.kp, hbd, .nil, fn_ok F Sc hb, fun vs H Q E h => by rw [List.append_nil]; exact h⟩
theorem GFnH.of {x qual : Str} {params : Arguments} {body : List Stmt} {scope : Scope} {kws : List (Str × V)} {f : Addr} {fd : FuncData} {N ps : List Str} {k : Nat} {ms : MS} (F : FunD K x qual params body scope [] kws f fd) (Sc : FnScope N ps scope) (hm : mg x = some (.ref f)) (hbd : Binds K fd ps [])
    (hb : ∀ (X : Cx) (C : Ctx), X.prog = P → X.w = w → X.mg = mg → X.base = base → X.K = K → C.K = K → X.N = N → X.env.scope = scope → X.fn = (fun _ => true) → Okh X C k → ESs X C body ms) : GFnH P w K mg base x ps.length (k + 1) (fnOf N.length ms) :=
  ⟨f, fd, ps, hm, F.kp, hbd, fnH_ok F Sc hb⟩
theorem GMt.of {c m x qual : Str} {params : Arguments} {body : List Stmt} {scope : Scope} {kws : List (Str × V)} {f : Addr} {fd : FuncData} {N ps : List Str} {k : Nat} {ms : MS} (F : FunD K x qual params body scope [] kws f fd) (Sc : FnScope N ps scope) (hc : Cls K (He.ga K c)) (hm : Meth K (He.ga K c) m f) (hbd : Binds K fd ps [])
    (hb : ∀ (X : Cx) (C : Ctx), X.prog = P → X.w = w → X.mg = mg → X.base = base → X.K = K → C.K = K → X.N = N → X.env.scope = scope → X.fn = (fun _ => true) → Oks X C k → ESs X C body ms) : GMt P w K mg base c m ps.length (k + 1) (fnOf N.length ms) :=
  ⟨f, fd, ps, _, [], [], hc, hm, hbd, .nil, fn_ok F Sc hb, fun vs H Q E h => by rw [List.append_nil]; exact h⟩
theorem GPr.of {c m x qual : Str} {params : Arguments} {body : List Stmt} {scope : Scope} {kws : List (Str × V)} {f q : Addr} {fd : FuncData} {N ps : List Str} {k : Nat} {ms : MS} (F : FunD K x qual params body scope [] kws f fd) (Sc : FnScope N ps scope) (h1 : ps.length = 1) (hc : Cls K (He.ga K c)) (hm : PropOf K (He.ga K c) m q f) (hbd : Binds K fd ps [])
    (hb : ∀ (X : Cx) (C : Ctx), X.prog = P → X.w = w → X.mg = mg → X.base = base → X.K = K → C.K = K → X.N = N → X.env.scope = scope → X.fn = (fun _ => true) → Oks X C k → ESs X C body ms) : GPr P w K mg base c m (k + 1) (fnOf N.length ms) := by
  have h := fn_ok F Sc hb
  rw [h1] at h
  exact ⟨q, f, fd, ps, hc, hm, hbd, h⟩
theorem GMk.of {c x qual : Str} {params : Arguments} {body : List Stmt} {scope : Scope} {kws : List (Str × V)} {f : Addr} {fd : FuncData} {N ps : List Str} {k n : Nat} {ms : MS} (F : FunD K x qual params body scope [] kws f fd) (Sc : FnScope N ps scope) (hn : ps.length = n + 1) (hm : mg c = some (.ref (He.ga K c))) (hk : Mk K (He.ga K c) f) (hbd : Binds K fd ps [])
    (hb : ∀ (X : Cx) (C : Ctx), X.prog = P → X.w = w → X.mg = mg → X.base = base → X.K = K → C.K = K → X.N = N → X.env.scope = scope → X.fn = (fun _ => true) → Oks X C k → ESs X C body ms) : GMk P w K mg base c n (k + 1) (fnInit c N.length ms) :=
  ⟨f, fd, ps, hm, hk, hbd, init_ok F Sc hn hb⟩
end
end Vf
/-! Vf14: tools for the plain functions: loops by an invariant, products within the model's line. -/
namespace Vf
open PySem PySem.Spec PyProof.Rows L2

theorem loopF_run {g : MT} {body : MS} (I : Nat → List Slot → List D → Prop) : ∀ (ds : List D) (k : Nat) (env : List Slot) (S : List D), I k env S →
    (∀ i d env S, ds[i]? = some d → I (k + i) env S → ∃ env1, g d env = some env1 ∧ ∃ env2 S2, (body env1 S = .next env2 S2 ∨ body env1 S = .cont env2 S2) ∧ I (k + i + 1) env2 S2) → ∃ env' S', loopF g body ds env S = .next env' S' ∧ I (k + ds.length) env' S'
  | [], k, env, S, h, _ => ⟨env, S, rfl, h⟩
  | d :: ds, k, env, S, h, st => by
    obtain ⟨env1, h1, env2, S2, h2, h3⟩ := st 0 d env S rfl h
    obtain ⟨env', S', h4, h5⟩ := loopF_run I ds (k + 1) env2 S2 h3 fun i d' env S e hi => by
      have e1 : k + 1 + i = k + (i + 1) := by omega
      rw [e1] at hi ⊢
      exact st (i + 1) d' env S (by simpa using e) hi
    refine ⟨env', S', ?_, by rw [List.length_cons]; have e1 : k + (ds.length + 1) = k + 1 + ds.length := by omega
                             rw [e1]; exact h5⟩
    unfold loopF
    rw [h1]
    rcases h2 with h2 | h2 <;> simp only [h2, h4]
/-- a list comprehension by an invariant: its items are f of the walked ones where p holds -/
theorem lcF_run {g : MT} {vs : List Nat} {t : M Bool} {m : M D} (I : Nat → List D → List Slot → List D → Prop) : ∀ (ds acc : List D) (k : Nat) (env : List Slot) (S : List D), I k acc env S →
    (∀ i d acc env S, ds[i]? = some d → I (k + i) acc env S → ∃ env1, g d env = some env1 ∧ ∃ c env2 S2, t env1 S = .ok c env2 S2 ∧
      (c = false → I (k + i + 1) acc (wipeE env2 vs) S2) ∧ (c = true → ∃ x env3 S3, m env2 S2 = .ok x env3 S3 ∧ acc.length < sizeLine ∧ I (k + i + 1) (acc ++ [x]) (wipeE env3 vs) S3)) →
    ∃ xs env' S', lcF g vs t m ds acc env S = .ok xs env' S' ∧ I (k + ds.length) xs env' S'
  | [], acc, k, env, S, h, _ => ⟨acc, env, S, rfl, h⟩
  | d :: ds, acc, k, env, S, h, st => by
    obtain ⟨env1, h1, c, env2, S2, h2, h3, h4⟩ := st 0 d acc env S rfl h
    have next : ∀ acc2 env4 S4, I (k + 1) acc2 env4 S4 → ∃ xs env' S', lcF g vs t m ds acc2 env4 S4 = .ok xs env' S' ∧ I (k + (ds.length + 1)) xs env' S' := fun acc2 env4 S4 hh => by
      obtain ⟨xs, env', S', h5, h6⟩ := lcF_run I ds acc2 (k + 1) env4 S4 hh fun i d' acc' env S e hi => by
        have e1 : k + 1 + i = k + (i + 1) := by omega
        rw [e1] at hi ⊢
        exact st (i + 1) d' acc' env S (by simpa using e) hi
      refine ⟨xs, env', S', h5, ?_⟩
      have e1 : k + (ds.length + 1) = k + 1 + ds.length := by omega
      rw [e1]; exact h6
    cases c with
    | false =>
      obtain ⟨xs, env', S', h5, h6⟩ := next _ _ _ (h3 rfl)
      exact ⟨xs, env', S', by simp [lcF, h1, h2, Res.calm, Res.bind, h5], h6⟩
    | true =>
      obtain ⟨x, env3, S3, h7, h8, h9⟩ := h4 rfl
      obtain ⟨xs, env', S', h5, h6⟩ := next _ _ _ h9
      exact ⟨xs, env', S', by simp [lcF, h1, h2, h7, h8, Res.calm, Res.bind, h5], h6⟩
theorem log2_le {x n : Nat} (h : x < 2 ^ n) : x.log2 ≤ n := by
  by_cases hx : x = 0
  · subst hx; simp
  · exact Nat.le_of_lt ((Nat.log2_lt hx).mpr h)
theorem mul_ok {i j : Int} {n m : Nat} (hi : i.natAbs < 2 ^ n) (hj : j.natAbs < 2 ^ m) (h : n + m < 1000000) : dMul (.int i) (.int j) = some (.int (i * j)) := by
  show (if i.natAbs.log2 + j.natAbs.log2 < 1000000 then some (D.int (i * j)) else none) = _
  rw [if_pos (by have := log2_le hi; have := log2_le hj; omega)]
theorem mod_ok {i j : Int} (h : 0 < j) : dMod (.int i) (.int j) = some (.int (i % j)) := if_pos h
theorem fdiv_ok {i j : Int} {n : Nat} (h : 0 < j) (hj : j.natAbs < 2 ^ n) (hn : n < 9000) : dFdiv (.int i) (.int j) = some (.int (i / j)) := if_pos ⟨h, by have := log2_le hj; omega⟩
/-! applied -/
theorem q_mVar {i : Nat} {env : List Slot} {S : List D} : mVar i env S = (match env[i]? with
  | some (.val d) => .ok d env S
  | some (.loc d) => .ok d (env.set i (.val d)) S
  | _ => .stuck) := rfl
theorem q_mCst {d : D} {env : List Slot} {S : List D} : mCst d env S = (.ok d env S) := rfl
theorem q_oVal {m : M D} {env : List Slot} {S : List D} : oVal m env S = ((m env S).bind fun d env S => .ok (.d d) env S) := rfl
theorem q_oLoc {i : Nat} {env : List Slot} {S : List D} : oLoc i env S = (match env[i]? with
  | some (.loc _) => .ok (.l i) env S
  | some (.val d) => .ok (.d d) env S
  | _ => .stuck) := rfl
theorem q_mOp2 {f : D → D → Option D} {ma mb : M Opd} {env : List Slot} {S : List D} : mOp2 f ma mb env S = ((ma env S).bind fun a env S => (mb env S).bind fun b env S => match resO env S a, resO env S b with
  | some x, some y => Res.lift (f x y) env S
  | _, _ => .stuck) := rfl
theorem q_bOf {m : M D} {env : List Slot} {S : List D} : bOf m env S = ((m env S).bind fun d env S => match d with
  | .bl b => .ok b env S
  | _ => .stuck) := rfl
theorem q_bTru {m : M Opd} {env : List Slot} {S : List D} : bTru m env S = ((m env S).bind fun o env S => match resO env S o with
  | some d => Res.lift (dTru d) env S
  | none => .stuck) := rfl
theorem q_bNot {m : M Bool} {env : List Slot} {S : List D} : bNot m env S = ((m env S).bind fun b env S => .ok (!b) env S) := rfl
theorem q_bAnd {m n : M Bool} {env : List Slot} {S : List D} : bAnd m n env S = ((m env S).bind fun b env S => if b = true then n env S else .ok false env S) := rfl
theorem q_bOr {m n : M Bool} {env : List Slot} {S : List D} : bOr m n env S = ((m env S).bind fun b env S => if b = true then .ok true env S else n env S) := rfl
theorem q_vAnd {m n : M D} {env : List Slot} {S : List D} : vAnd m n env S = ((m env S).bind fun d env S => match d with
  | .bl b => if b = true then n env S else .ok (.bl false) env S
  | _ => .stuck) := rfl
theorem q_vOr {m n : M D} {env : List Slot} {S : List D} : vOr m n env S = ((m env S).bind fun d env S => match d with
  | .bl b => if b = true then .ok (.bl true) env S else n env S
  | _ => .stuck) := rfl
theorem q_vNot {m : M D} {env : List Slot} {S : List D} : vNot m env S = ((m env S).bind fun d env S => match d with
  | .bl b => .ok (.bl (!b)) env S
  | _ => .stuck) := rfl
theorem q_mIte {t : M Bool} {m n : M D} {env : List Slot} {S : List D} : mIte t m n env S = ((t env S).bind fun b env S => if b = true then m env S else n env S) := rfl
theorem q_mOr {m n : M D} {env : List Slot} {S : List D} : mOr m n env S = (match m env S with
  | .stuck => n env S
  | r => r) := rfl
theorem q_aNil  {env : List Slot} {S : List D} : aNil  env S = (.ok [] env S) := rfl
theorem q_aCons {m : M D} {n : M (List D)} {env : List Slot} {S : List D} : aCons m n env S = ((m env S).bind fun d env S => (n env S).bind fun ds env S => .ok (d :: ds) env S) := rfl
theorem q_aoNil  {env : List Slot} {S : List D} : aoNil  env S = (.ok [] env S) := rfl
theorem q_aoCons {m : M Opd} {n : M (List Opd)} {env : List Slot} {S : List D} : aoCons m n env S = ((m env S).bind fun d env S => (n env S).bind fun ds env S => .ok (d :: ds) env S) := rfl
theorem q_mTup {m : M (List D)} {env : List Slot} {S : List D} : mTup m env S = ((m env S).bind fun ds env S => if ds.length ≤ sizeLine then .ok (.tup ds) env S else .stuck) := rfl
theorem q_nLst {m : M (List D)} {env : List Slot} {S : List D} : nLst m env S = ((m env S).bind fun ds env S => if ds.length ≤ sizeLine then .ok (.lst ds) env S else .stuck) := rfl
theorem q_iSeq {m : M D} {env : List Slot} {S : List D} : iSeq m env S = ((m env S).bind fun d env S => match d with
  | .lst xs => .ok xs env S
  | .tup xs => .ok xs env S
  | _ => .stuck) := rfl
theorem q_iSign {m : M D} {env : List Slot} {S : List D} : iSign m env S = ((m env S).bind fun d env S => match d with
  | .str x => .ok (iStrs x) env S
  | _ => .stuck) := rfl
theorem q_iR1 {m : M (List Opd)} {env : List Slot} {S : List D} : iR1 m env S = ((m env S).bind fun os env S => match resL env S os with
  | some [.int j] => if Ok62 j = true then .ok (iOrd 0 j.toNat) env S else .stuck
  | _ => .stuck) := rfl
theorem q_iR2 {m : M (List Opd)} {env : List Slot} {S : List D} : iR2 m env S = ((m env S).bind fun os env S => match resL env S os with
  | some [.int i, .int j] => if (Ok62 i && Ok62 j) = true then .ok (iOrd i (j - i).toNat) env S else .stuck
  | _ => .stuck) := rfl
theorem q_iEnumM {m : M (List D)} {env : List Slot} {S : List D} : iEnumM m env S = ((m env S).bind fun ds env S => match ds with
  | [.lst xs] => .ok (enumD 0 xs) env S
  | _ => .stuck) := rfl
theorem q_iRevM {m : M (List D)} {env : List Slot} {S : List D} : iRevM m env S = ((m env S).bind fun ds env S => match ds with
  | [.lst xs] => .ok xs.reverse env S
  | _ => .stuck) := rfl
theorem q_iZipM {m : M (List D)} {env : List Slot} {S : List D} : iZipM m env S = ((m env S).bind fun ds env S => match ds with
  | [.lst xs, .lst ys] => .ok ((xs.zip ys).map fun p => .tup [p.1, p.2]) env S
  | _ => .stuck) := rfl
theorem q_sNext  {env : List Slot} {S : List D} : sNext  env S = (.next env S) := rfl
theorem q_sSeq {a b : MS} {env : List Slot} {S : List D} : sSeq a b env S = (match a env S with
  | .next env S => b env S
  | r => r) := rfl
theorem q_sExpr {m : M D} {env : List Slot} {S : List D} : sExpr m env S = ((m env S).toS fun _ env S => .next env S) := rfl
theorem q_sRet {m : M D} {env : List Slot} {S : List D} : sRet m env S = ((m env S).toS fun d env S => .ret d env S) := rfl
theorem q_sRetN {m : M D} {env : List Slot} {S : List D} : sRetN m env S = ((m env S).toS fun d env S => .retN d env S) := rfl
theorem q_sRetL {i : Nat} {env : List Slot} {S : List D} : sRetL i env S = (match env[i]? with
  | some (.loc d) => .retN d (env.set i .none) S
  | _ => .stuck) := rfl
theorem q_sIf {t : M Bool} {a b : MS} {env : List Slot} {S : List D} : sIf t a b env S = ((t env S).toS fun c env S => if c = true then a env S else b env S) := rfl
theorem q_sSet {i : Nat} {m : M D} {env : List Slot} {S : List D} : sSet i m env S = ((m env S).toS fun d env S => if i < env.length then .next (env.set i (.val d)) S else .stuck) := rfl
theorem q_sSetN {i : Nat} {m : M D} {env : List Slot} {S : List D} : sSetN i m env S = ((m env S).toS fun d env S => if i < env.length ∧ i ≠ 0 then .next (env.set i (.loc d)) S else .stuck) := rfl
theorem q_sAsg {m : M D} {g : MT} {env : List Slot} {S : List D} : sAsg m g env S = ((m env S).toS fun d env S => match g d env with
  | some env => .next env S
  | none => .stuck) := rfl
theorem q_sFor {mi : M (List D)} {g : MT} {body : MS} {env : List Slot} {S : List D} : sFor mi g body env S = ((mi env S).toS fun ds env S => loopF g body ds env S) := rfl
theorem q_nLc {mi : M (List D)} {g : MT} {vs : List Nat} {t : M Bool} {e : M D} {env : List Slot} {S : List D} : nLc mi g vs t e env S = ((mi env S).bind fun ds env S => if okVs env vs = true then
  (lcF g vs t e ds [] (wipeE env vs) S).bind fun xs env' S => .ok (.lst xs) (backE env env' vs) S else .stuck) := rfl
theorem q_bYes  {env : List Slot} {S : List D} : bYes  env S = (.ok true env S) := rfl
theorem q_mCall {n : Nat} {F : Fn} {m : M (List D)} {env : List Slot} {S : List D} : mCall n F m env S = ((m env S).bind fun ds env S => if ds.length = n then (F ds S).toR env else .stuck) := rfl
theorem q_nCall {n : Nat} {F : Fn} {m : M (List D)} {env : List Slot} {S : List D} : nCall n F m env S = ((m env S).bind fun ds env S => if ds.length = n then (F ds S).toN env else .stuck) := rfl
theorem q_mMeth {c m : Str} {n : Nat} {F : Fn} {mo : M D} {ma : M (List D)} {env : List Slot} {S : List D} : mMeth c m n F mo ma env S = ((mo env S).bind fun o env S => if insOf c m o = true then (ma env S).bind fun ds env S => if (o :: ds).length = n then (F (o :: ds) S).toR env else .stuck else .stuck) := rfl
theorem q_mMeth0 {c m : Str} {n : Nat} {F : Fn} {mo : M D} {env : List Slot} {S : List D} : mMeth0 c m n F mo env S = ((mo env S).bind fun o env S => if insOf c m o = true then if n = 1 then (F [o] S).toR env else .stuck else .stuck) := rfl
theorem q_mFld {f : Str} {cs : List Str} {mo : M Opd} {env : List Slot} {S : List D} : mFld f cs mo env S = ((mo env S).bind fun o env S => match resO env S o with
  | some x => Res.lift (dFld f cs x) env S
  | none => .stuck) := rfl
theorem q_mProp {c : Str} {F : Fn} {mo : M D} {env : List Slot} {S : List D} : mProp c F mo env S = ((mo env S).bind fun o env S => match o with
  | .ins c' _ _ => if c' = c then (F [o] S).quiet.toR env else .stuck
  | _ => .stuck) := rfl
theorem q_nMake {n : Nat} {F : Fn} {m : M (List D)} {env : List Slot} {S : List D} : nMake n F m env S = ((m env S).bind fun ds env S => if ds.length = n then (match F ds S with
  | .ok d S => .ok d env S
  | .err x S => .err x env S
  | _ => .stuck) else .stuck) := rfl
theorem q_pNone  {env : List Slot} {S : List D} : pNone  env S = (.ok none env S) := rfl
theorem q_pSome {m : M D} {env : List Slot} {S : List D} : pSome m env S = ((m env S).bind fun d env S => match d with
  | .int i => .ok (some i) env S
  | _ => .stuck) := rfl
theorem q_mSl {mo : M Opd} {lo hi : M (Option Int)} {env : List Slot} {S : List D} : mSl mo lo hi env S = ((mo env S).bind fun o env S => (lo env S).bind fun l env S => (hi env S).bind fun h env S => match resO env S o with
  | some x => Res.lift (dSl l h x) env S
  | none => .stuck) := rfl
theorem q_mB {f : List D → Option D} {ma : M (List Opd)} {env : List Slot} {S : List D} : mB f ma env S = ((ma env S).bind fun os env S => match resL env S os with
  | some ds => Res.lift (f ds) env S
  | none => .stuck) := rfl
theorem q_mRef {m : M D} {env : List Slot} {S : List D} : mRef m env S = ((m env S).bind fun d env S => .ok (.ref S.length) env (S ++ [d])) := rfl
theorem q_mMut {f : D → List D → Option (D × D)} {mo : M Opd} {ma : M (List D)} {env : List Slot} {S : List D} : mMut f mo ma env S = ((mo env S).bind fun o env S => if isLst (cellO env S o) = true then (ma env S).bind fun ds env S => mutK f o ds env S else .stuck) := rfl
theorem q_mMut0 {f : D → List D → Option (D × D)} {mo : M Opd} {env : List Slot} {S : List D} : mMut0 f mo env S = ((mo env S).bind fun o env S => if isLst (cellO env S o) = true then mutK f o [] env S else .stuck) := rfl
theorem q_mDGet {mo : M Opd} {mi : M D} {env : List Slot} {S : List D} : mDGet mo mi env S = ((mo env S).bind fun o env S => (mi env S).bind fun i env S => match resO env S o with
  | some d => Res.lift (dGetD d i) env S
  | none => .stuck) := rfl
theorem q_sPut {mo : M Opd} {mi mv : M D} {env : List Slot} {S : List D} : sPut mo mi mv env S = ((mv env S).toS fun v env S => (mo env S).toS fun o env S => (mi env S).toS fun i env S => match cellO env S o with
  | some d => (match dSetD d i v with
    | some d' => .next (setE env o d') (setS S o d')
    | none => .stuck)
  | none => .stuck) := rfl
theorem q_sFldP {f : Str} {cs : List Str} {mo : M Opd} {mv : M D} {env : List Slot} {S : List D} : sFldP f cs mo mv env S = ((mv env S).toS fun v env S => (mo env S).toS fun o env S => match cellO env S o with
  | some (.ins c ns xs) => if c ∈ cs ∧ ns.length < 1000 then .next (setE env o (.ins c (putNs f ns) (putXs f v ns xs))) (setS S o (.ins c (putNs f ns) (putXs f v ns xs))) else .stuck
  | _ => .stuck) := rfl
theorem q_sAug {i : Nat} {f : D → D → Option D} {m : M D} {env : List Slot} {S : List D} : sAug i f m env S = (match env[i]? with
  | some (.val x) => (m env S).toS fun y env S => (match f x y with
    | some d => if i < env.length then .next (env.set i (.val d)) S else .stuck
    | none => .stuck)
  | _ => .stuck) := rfl
theorem q_mTx {f : Str → D → Option D} {mo : M D} {me : M Opd} {env : List Slot} {S : List D} : mTx f mo me env S = ((mo env S).bind fun o env S => match o with
  | .str a => (me env S).bind fun p env S => (match resO env S p with
    | some b => Res.lift (f a b) env S
    | none => .stuck)
  | _ => .stuck) := rfl
theorem q_mIsT {T : String} {mo : M Opd} {env : List Slot} {S : List D} : mIsT T mo env S = ((mo env S).bind fun o env S => match resO env S o with
  | some d => Res.lift ((isTy T d).map .bl) env S
  | none => .stuck) := rfl
theorem q_mInK {c : Str} {F : Fn} {g : Bool → Bool} {ma mb : M D} {env : List Slot} {S : List D} : mInK c F g ma mb env S = ((ma env S).bind fun a env S => (mb env S).bind fun b env S => if insC c b = true then (F [b, a] S).toB g env else .stuck) := rfl
theorem q_sRaise0 {c : Str} {env : List Slot} {S : List D} : sRaise0 c env S = (.err ⟨c, [], []⟩ env S) := rfl
theorem q_mExc {i : Nat} {a : Addr} {b : Bool} {env : List Slot} {S : List D} : mExc i a b env S = (match env[i]? with
  | some (.val (.adr q)) => if q = a then .ok (.bl b) env S else .stuck
  | _ => .stuck) := rfl
theorem q_sTry {n : Nat} {xs : List Str} {hd : Str → List D → Option (D × List D)} {body : MS} {env : List Slot} {S : List D} : sTry n xs hd body env S = (match body env S with
  | .err x _ S' => if x.cls ∈ xs ∧ x.ns = [] then (match hd x.cls S' with
    | some (d, S2) => .ret d (List.replicate n .none) S2
    | none => .stuck) else .stuck
  | r => r) := rfl
theorem q_iScr {m : M D} {env : List Slot} {S : List D} : iScr m env S = ((m env S).bind fun d env S => match d with
  | .scr is => .ok (is.map D.int) env S
  | _ => .stuck) := rfl
theorem q_nDict {ks : List Key} {m : M (List D)} {env : List Slot} {S : List D} : nDict ks m env S = ((m env S).bind fun ds env S => if ds.length = ks.length then .ok (.dk ks ds) env S else .stuck) := rfl
theorem q_mNeg {m : M D} {env : List Slot} {S : List D} : mNeg m env S = ((m env S).bind fun d env S => match d with
  | .int i => .ok (.int (-i)) env S
  | _ => .stuck) := rfl
theorem q_mCallK {n k : Nat} {F : Fn} {m mk : M (List D)} {env : List Slot} {S : List D} : mCallK n k F m mk env S = ((m env S).bind fun ds env S => (mk env S).bind fun es env S => if ds.length = n ∧ es.length = k then (F (ds ++ es) S).toR env else .stuck) := rfl
theorem q_nCallK {n k : Nat} {F : Fn} {m mk : M (List D)} {env : List Slot} {S : List D} : nCallK n k F m mk env S = ((m env S).bind fun ds env S => (mk env S).bind fun es env S => if ds.length = n ∧ es.length = k then (F (ds ++ es) S).toN env else .stuck) := rfl
end Vf
/-! Vf15: tools for the plain functions: loops by an invariant, equality of trees, texts by their codes. -/
namespace Vf
open PySem PySem.Spec PyProof.Rows L2
def turnF (g : MT) (body : MS) (d : D) : MS := fun env S => match g d env with
  | none => .stuck
  | some env => body env S
/-- a loop by an invariant -/
theorem loop_do {g : MT} {body : MS} (I : Nat → List Slot → List D → Prop) : ∀ (ds : List D) (k : Nat) (env : List Slot) (S : List D), I k env S →
    (∀ i d env S, ds[i]? = some d → I (k + i) env S → ∃ env2 S2, turnF g body d env S = .next env2 S2 ∧ I (k + i + 1) env2 S2) → ∃ env' S', loopF g body ds env S = .next env' S' ∧ I (k + ds.length) env' S'
  | [], k, env, S, h, _ => ⟨env, S, rfl, h⟩
  | d :: ds, k, env, S, h, st => by
    obtain ⟨env2, S2, h2, h3⟩ := st 0 d env S rfl h
    obtain ⟨env', S', h4, h5⟩ := loop_do I ds (k + 1) env2 S2 h3 fun i d' env S e hi => by
      have e1 : k + 1 + i = k + (i + 1) := by omega
      rw [e1] at hi ⊢
      exact st (i + 1) d' env S (by simpa using e) hi
    refine ⟨env', S', ?_, by rw [List.length_cons]; have e1 : k + (ds.length + 1) = k + 1 + ds.length := by omega
                             rw [e1]; exact h5⟩
    unfold turnF at h2
    unfold loopF
    cases q : g d env with
    | none => rw [q] at h2; cases h2
    | some env1 =>
      rw [q] at h2
      dsimp only at h2 ⊢
      rw [h2]
      exact h4
theorem iOrd_len (lo : Int) (n : Nat) : (iOrd lo n).length = n := by simp [iOrd]
theorem iOrd_at {lo : Int} {n i : Nat} {d : D} (h : (iOrd lo n)[i]? = some d) : d = .int (lo + i) ∧ i < n := by
  have hi := (List.getElem?_eq_some_iff.mp h).1
  rw [iOrd_len] at hi
  have e2 : (iOrd lo n)[i]? = some (D.int (lo + (i : Nat))) := by simp [iOrd, hi]
  rw [e2] at h; cases h
  exact ⟨rfl, hi⟩
/-- a loop over range(n) -/
theorem loop_range {g : MT} {body : MS} {lo : Int} {n : Nat} {env : List Slot} {S : List D} (I : Nat → List Slot → List D → Prop) (h0 : I 0 env S)
    (st : ∀ i env S, i < n → I i env S → ∃ env2 S2, turnF g body (.int (lo + (i : Nat))) env S = .next env2 S2 ∧ I (i + 1) env2 S2) : ∃ env' S', loopF g body (iOrd lo n) env S = .next env' S' ∧ I n env' S' := by
  have h := loop_do (g := g) (body := body) I (iOrd lo n) 0 env S h0 fun i d env S e hi => by
    obtain ⟨rfl, hl⟩ := iOrd_at e
    rw [Nat.zero_add] at hi ⊢
    exact st i env S hl hi
  rw [iOrd_len, Nat.zero_add] at h
  exact h
/-- a loop over a list that is a map -/
theorem loop_map {α : Type} {g : MT} {body : MS} {f : α → D} {xs : List α} {env : List Slot} {S : List D} (I : Nat → List Slot → List D → Prop) (h0 : I 0 env S)
    (st : ∀ i x env S, xs[i]? = some x → I i env S → ∃ env2 S2, turnF g body (f x) env S = .next env2 S2 ∧ I (i + 1) env2 S2) : ∃ env' S', loopF g body (xs.map f) env S = .next env' S' ∧ I xs.length env' S' := by
  have h := loop_do (g := g) (body := body) I (xs.map f) 0 env S h0 fun i d env S e hi => by
    rw [List.getElem?_map] at e
    cases q : xs[i]? with
    | none => rw [q] at e; cases e
    | some x => rw [q] at e; cases e; rw [Nat.zero_add] at hi ⊢; exact st i x env S q hi
  rw [List.length_map, Nat.zero_add] at h
  exact h
/-- comprehension: each item's value, the state unchanged but for what I says -/
theorem lc_map {α : Type} {g : MT} {vs : List Nat} {t : M Bool} {m : M D} {f : α → D} {xs : List α} {env : List Slot} {S : List D} (I : Nat → List D → List Slot → List D → Prop) (h0 : I 0 [] env S)
    (st : ∀ i x acc env S, xs[i]? = some x → I i acc env S → ∃ env1, g (f x) env = some env1 ∧ ∃ c env2 S2, t env1 S = .ok c env2 S2 ∧
      (c = false → I (i + 1) acc (wipeE env2 vs) S2) ∧ (c = true → ∃ y env3 S3, m env2 S2 = .ok y env3 S3 ∧ acc.length < sizeLine ∧ I (i + 1) (acc ++ [y]) (wipeE env3 vs) S3)) :
    ∃ ys env' S', lcF g vs t m (xs.map f) [] env S = .ok ys env' S' ∧ I xs.length ys env' S' := by
  have h := lcF_run (g := g) (vs := vs) (t := t) (m := m) I (xs.map f) [] 0 env S h0 fun i d acc env S e hi => by
    rw [List.getElem?_map] at e
    cases q : xs[i]? with
    | none => rw [q] at e; cases e
    | some x => rw [q] at e; cases e; rw [Nat.zero_add] at hi ⊢; exact st i x acc env S q hi
  rw [List.length_map, Nat.zero_add] at h
  exact h
/-- a pure comprehension without a test over a list -/
theorem lc_pure {g : MT} {vs : List Nat} {m : M D} {env : List Slot} {S : List D} (fy : D → D) : ∀ (ds acc : List D), acc.length + ds.length ≤ 1000000 →
    (∀ d ∈ ds, ∃ env1 env2, g d env = some env1 ∧ m env1 S = .ok (fy d) env2 S ∧ wipeE env2 vs = env) → lcF g vs bYes m ds acc env S = .ok (acc ++ ds.map fy) env S
  | [], acc, _, _ => by simp [lcF]
  | d :: ds, acc, hl, h => by
    obtain ⟨env1, env2, h1, h2, h3⟩ := h d (List.mem_cons_self ..)
    have ih := lc_pure fy ds (acc ++ [fy d]) (by simp at hl ⊢; omega) fun d' hd => h d' (List.mem_cons_of_mem _ hd)
    have hs : acc.length < sizeLine := by rw [sizeLine_eq]; simp at hl; omega
    simp [lcF, h1, h2, h3, Res.calm, Res.bind, bYes, hs, ih]
/-- a pure comprehension with a test -/
theorem lc_if {g : MT} {vs : List Nat} {t : M Bool} {m : M D} {env : List Slot} {S : List D} (p : D → Bool) (fy : D → D) : ∀ (ds acc : List D), acc.length + ds.length ≤ 1000000 →
    (∀ d ∈ ds, ∃ env1 env2, g d env = some env1 ∧ t env1 S = .ok (p d) env2 S ∧ (p d = false → wipeE env2 vs = env) ∧ (p d = true → ∃ env3, m env2 S = .ok (fy d) env3 S ∧ wipeE env3 vs = env)) →
      lcF g vs t m ds acc env S = .ok (acc ++ (ds.filter p).map fy) env S
  | [], acc, _, _ => by simp [lcF]
  | d :: ds, acc, hl, h => by
    obtain ⟨env1, env2, h1, h2, h3, h4⟩ := h d (List.mem_cons_self ..)
    have hs : acc.length < sizeLine := by rw [sizeLine_eq]; simp at hl; omega
    cases hp : p d with
    | false =>
      have ih := lc_if p fy ds acc (by simp at hl ⊢; omega) fun d' hd => h d' (List.mem_cons_of_mem _ hd)
      simp [lcF, h1, h2, hp, h3 hp, Res.calm, Res.bind, ih]
    | true =>
      obtain ⟨env3, h5, h6⟩ := h4 hp
      have ih := lc_if p fy ds (acc ++ [fy d]) (by simp at hl ⊢; omega) fun d' hd => h d' (List.mem_cons_of_mem _ hd)
      simp [lcF, h1, h2, hp, h5, h6, Res.calm, Res.bind, ih, hs]
theorem lc_pureT {α : Type} {g : MT} {vs : List Nat} {m : M D} {f h : α → D} {xs : List α} {env : List Slot} {S : List D} (hl : xs.length ≤ 1000000)
    (st : ∀ x ∈ xs, ∃ env1 env2, g (f x) env = some env1 ∧ m env1 S = .ok (h x) env2 S ∧ wipeE env2 vs = env) : lcF g vs bYes m (xs.map f) [] env S = .ok (xs.map h) env S := by
  have go : ∀ (xs : List α) (acc : List D), acc.length + xs.length ≤ 1000000 → (∀ x ∈ xs, ∃ env1 env2, g (f x) env = some env1 ∧ m env1 S = .ok (h x) env2 S ∧ wipeE env2 vs = env) → lcF g vs bYes m (xs.map f) acc env S = .ok (acc ++ xs.map h) env S := by
    intro xs
    induction xs with
    | nil => intro acc _ _; simp [lcF]
    | cons x xs ih =>
      intro acc hl st
      obtain ⟨env1, env2, h1, h2, h3⟩ := st x (List.mem_cons_self ..)
      have ih := ih (acc ++ [h x]) (by simp at hl ⊢; omega) fun d' hd => st d' (List.mem_cons_of_mem _ hd)
      have hs : acc.length < sizeLine := by rw [sizeLine_eq]; simp at hl; omega
      simp [lcF, h1, h2, h3, Res.calm, Res.bind, bYes, hs, ih]
  exact go xs [] (by simpa using hl) st
theorem lc_ifT {α : Type} {g : MT} {vs : List Nat} {t : M Bool} {m : M D} {f h : α → D} {xs : List α} {env : List Slot} {S : List D} (p : α → Bool) (hl : xs.length ≤ 1000000)
    (st : ∀ x ∈ xs, ∃ env1 env2, g (f x) env = some env1 ∧ t env1 S = .ok (p x) env2 S ∧ (p x = false → wipeE env2 vs = env) ∧ (p x = true → ∃ env3, m env2 S = .ok (h x) env3 S ∧ wipeE env3 vs = env)) :
      lcF g vs t m (xs.map f) [] env S = .ok ((xs.filter p).map h) env S := by
  have go : ∀ (xs : List α) (acc : List D), acc.length + xs.length ≤ 1000000 → (∀ x ∈ xs, ∃ env1 env2, g (f x) env = some env1 ∧ t env1 S = .ok (p x) env2 S ∧ (p x = false → wipeE env2 vs = env) ∧ (p x = true → ∃ env3, m env2 S = .ok (h x) env3 S ∧ wipeE env3 vs = env)) →
      lcF g vs t m (xs.map f) acc env S = .ok (acc ++ (xs.filter p).map h) env S := by
    intro xs
    induction xs with
    | nil => intro acc _ _; simp [lcF]
    | cons x xs ih =>
      intro acc hl st
      obtain ⟨env1, env2, h1, h2, h3, h4⟩ := st x (List.mem_cons_self ..)
      have hs : acc.length < sizeLine := by rw [sizeLine_eq]; simp at hl; omega
      cases hp : p x with
      | false =>
        have ih := ih acc (by simp at hl ⊢; omega) fun d' hd => st d' (List.mem_cons_of_mem _ hd)
        simp [lcF, h1, h2, hp, h3 hp, Res.calm, Res.bind, ih]
      | true =>
        obtain ⟨env3, h5, h6⟩ := h4 hp
        have ih := ih (acc ++ [h x]) (by simp at hl ⊢; omega) fun d' hd => st d' (List.mem_cons_of_mem _ hd)
        simp [lcF, h1, h2, hp, h5, h6, Res.calm, Res.bind, ih, hs]
  exact go xs [] (by simpa using hl) st
/-! equality of trees of None, ints, texts, lists, tuples -/
mutual
def D.pl : D → Bool
  | .non => true | .int _ => true | .str x => PyData.strOk x
  | .lst xs => D.pls xs
  | .tup xs => D.pls xs
  | _ => false
def D.pls : List D → Bool
  | [] => true
  | x :: xs => D.pl x && D.pls xs
end
mutual
def D.dep : D → Nat
  | .lst xs => D.deps xs + 1
  | .tup xs => D.deps xs + 1
  | _ => 0
def D.deps : List D → Nat
  | [] => 0
  | x :: xs => max (D.dep x) (D.deps xs)
end
mutual
theorem toP_pl : ∀ d : D, d.pl = true → ∃ p, d.toP = some p ∧ p.canLay0 = true ∧ p.depth = d.dep
  | .non, _ => ⟨_, rfl, rfl, rfl⟩
  | .int _, _ => ⟨_, rfl, rfl, rfl⟩
  | .str x, h => ⟨_, rfl, by simpa [PyData.canLay0, D.pl] using h, rfl⟩
  | .lst xs, h => by
    obtain ⟨ps, e, c, k⟩ := toP_pls xs (by simpa [D.pl] using h)
    exact ⟨.list ps, by simp [D.toP, e], by simpa [PyData.canLay0] using c, by simp [PyData.depth, D.dep, k]⟩
  | .tup xs, h => by
    obtain ⟨ps, e, c, k⟩ := toP_pls xs (by simpa [D.pl] using h)
    exact ⟨.tuple ps, by simp [D.toP, e], by simpa [PyData.canLay0] using c, by simp [PyData.depth, D.dep, k]⟩
  | .bl _, h => by simp [D.pl] at h
  | .dk _ _, h => by simp [D.pl] at h
  | .dt _ _, h => by simp [D.pl] at h
  | .ins _ _ _, h => by simp [D.pl] at h
  | .ref _, h => by simp [D.pl] at h
  | .adr _, h => by simp [D.pl] at h
  | .scr _, h => by simp [D.pl] at h
theorem toP_pls : ∀ ds : List D, D.pls ds = true → ∃ ps, D.toPs ds = some ps ∧ PyData.canLayAll0 ps = true ∧ PyData.depthAll ps = D.deps ds
  | [], _ => ⟨[], rfl, rfl, rfl⟩
  | d :: ds, h => by
    have h' : d.pl = true ∧ D.pls ds = true := by simpa [D.pls] using h
    obtain ⟨p, e1, c1, k1⟩ := toP_pl d h'.1
    obtain ⟨ps, e2, c2, k2⟩ := toP_pls ds h'.2
    exact ⟨p :: ps, by simp [D.toPs, e1, e2], by simp [PyData.canLayAll0, c1, c2], by simp [PyData.depthAll, D.deps, k1, k2]⟩
end
mutual
theorem eqv_toP : ∀ (a b : D) (p q : PyData), a.pl = true → b.pl = true → a.toP = some p → b.toP = some q → (PyData.eqv p q = true ↔ a = b)
  | .non, b, p, q, ha, hb, e1, e2 => by
    cases e1
    cases b <;> first | (simp [D.pl] at hb; done) | (cases e2; simp [PyData.eqv]; done) | skip
    all_goals (simp only [D.toP, Option.map_eq_some_iff] at e2; obtain ⟨_, _, rfl⟩ := e2; simp [PyData.eqv])
  | .int i, b, p, q, ha, hb, e1, e2 => by
    cases e1
    cases b <;> first | (simp [D.pl] at hb; done) | (cases e2; simp [PyData.eqv]; done) | skip
    all_goals (simp only [D.toP, Option.map_eq_some_iff] at e2; obtain ⟨_, _, rfl⟩ := e2; simp [PyData.eqv])
  | .str i, b, p, q, ha, hb, e1, e2 => by
    cases e1
    cases b <;> first | (simp [D.pl] at hb; done) | (cases e2; simp [PyData.eqv]; done) | skip
    all_goals (simp only [D.toP, Option.map_eq_some_iff] at e2; obtain ⟨_, _, rfl⟩ := e2; simp [PyData.eqv])
  | .lst xs, b, p, q, ha, hb, e1, e2 => by
    simp only [D.toP, Option.map_eq_some_iff] at e1
    obtain ⟨ps, e1, rfl⟩ := e1
    cases b <;> first | (simp [D.pl] at hb; done) | (cases e2; simp [PyData.eqv]; done) | skip
    all_goals (simp only [D.toP, Option.map_eq_some_iff] at e2; obtain ⟨qs, e2, rfl⟩ := e2)
    · simp [PyData.eqv]
    · have := eqvAll_toP xs _ ps qs (by simpa [D.pl] using ha) (by simpa [D.pl] using hb) e1 e2
      rw [PyData.eqv, this]; simp
  | .tup xs, b, p, q, ha, hb, e1, e2 => by
    simp only [D.toP, Option.map_eq_some_iff] at e1
    obtain ⟨ps, e1, rfl⟩ := e1
    cases b <;> first | (simp [D.pl] at hb; done) | (cases e2; simp [PyData.eqv]; done) | skip
    all_goals (simp only [D.toP, Option.map_eq_some_iff] at e2; obtain ⟨qs, e2, rfl⟩ := e2)
    · have := eqvAll_toP xs _ ps qs (by simpa [D.pl] using ha) (by simpa [D.pl] using hb) e1 e2
      rw [PyData.eqv, this]; simp
    · simp [PyData.eqv]
  | .bl _, _, _, _, h, _, _, _ => by simp [D.pl] at h
  | .dk _ _, _, _, _, h, _, _, _ => by simp [D.pl] at h
  | .dt _ _, _, _, _, h, _, _, _ => by simp [D.pl] at h
  | .ins _ _ _, _, _, _, h, _, _, _ => by simp [D.pl] at h
  | .ref _, _, _, _, h, _, _, _ => by simp [D.pl] at h
  | .adr _, _, _, _, h, _, _, _ => by simp [D.pl] at h
  | .scr _, _, _, _, h, _, _, _ => by simp [D.pl] at h
theorem eqvAll_toP : ∀ (as bs : List D) (ps qs : List PyData), D.pls as = true → D.pls bs = true → D.toPs as = some ps → D.toPs bs = some qs → (PyData.eqvAll ps qs = true ↔ as = bs)
  | [], [], _, _, _, _, e1, e2 => by cases e1; cases e2; simp [PyData.eqvAll]
  | [], b :: bs, ps, qs, _, hb, e1, e2 => by
    have h' : b.pl = true ∧ D.pls bs = true := by simpa [D.pls] using hb
    obtain ⟨p, x1, _⟩ := toP_pl b h'.1
    obtain ⟨r, x2, _⟩ := toP_pls bs h'.2
    cases e1; simp only [D.toPs, x1, x2] at e2; cases e2; simp [PyData.eqvAll]
  | a :: as, [], ps, qs, ha, _, e1, e2 => by
    have h' : a.pl = true ∧ D.pls as = true := by simpa [D.pls] using ha
    obtain ⟨p, x1, _⟩ := toP_pl a h'.1
    obtain ⟨r, x2, _⟩ := toP_pls as h'.2
    cases e2; simp only [D.toPs, x1, x2] at e1; cases e1; simp [PyData.eqvAll]
  | a :: as, b :: bs, ps, qs, ha, hb, e1, e2 => by
    have ha' : a.pl = true ∧ D.pls as = true := by simpa [D.pls] using ha
    have hb' : b.pl = true ∧ D.pls bs = true := by simpa [D.pls] using hb
    obtain ⟨p, x1, _⟩ := toP_pl a ha'.1
    obtain ⟨r, x2, _⟩ := toP_pls as ha'.2
    obtain ⟨q, y1, _⟩ := toP_pl b hb'.1
    obtain ⟨s, y2, _⟩ := toP_pls bs hb'.2
    simp only [D.toPs, x1, x2] at e1; cases e1
    simp only [D.toPs, y1, y2] at e2; cases e2
    rw [PyData.eqvAll, Bool.and_eq_true, eqv_toP a b p q ha'.1 hb'.1 x1 y1, eqvAll_toP as bs r s ha'.2 hb'.2 x2 y2]
    simp
end
theorem pEq_ok {a b : D} (ha : a.pl = true) (hb : b.pl = true) (da : a.dep ≤ 64) (db : b.dep ≤ 64) : ∃ c, pEq a b = some c ∧ (c = true ↔ a = b) := by
  obtain ⟨p, e1, c1, k1⟩ := toP_pl a ha
  obtain ⟨q, e2, c2, k2⟩ := toP_pl b hb
  refine ⟨PyData.eqv p q, ?_, eqv_toP a b p q ha hb e1 e2⟩
  unfold pEq
  rw [e1, e2]
  dsimp only
  have h1 : SeqAt.shaped p = true := by simp [SeqAt.shaped, c1, k1, da]
  have h2 : SeqAt.shaped q = true := by simp [SeqAt.shaped, c2, k2, db]
  rw [if_pos ⟨h1, h2⟩]
theorem eqB_ok {a b : D} (ha : a.pl = true) (hb : b.pl = true) (da : a.dep ≤ 64) (db : b.dep ≤ 64) : ∃ c, eqB a b = some c ∧ (c = true ↔ a = b) := by
  have h := pEq_ok ha hb da db
  unfold eqB
  cases q : sEq a b with
  | none => exact h
  | some c =>
    refine ⟨c, rfl, ?_⟩
    cases a <;> cases b <;> simp [sEq] at q <;> (subst q; simp)
theorem pls_all {ds : List D} (h : ∀ d ∈ ds, d.pl = true) : D.pls ds = true := by
  induction ds with
  | nil => rfl
  | cons d ds ih => simp [D.pls, h d (List.mem_cons_self ..), ih fun x hx => h x (List.mem_cons_of_mem _ hx)]
theorem deps_all {ds : List D} {n : Nat} (h : ∀ d ∈ ds, d.dep ≤ n) : D.deps ds ≤ n := by
  induction ds with
  | nil => exact Nat.zero_le _
  | cons d ds ih => 
    have h1 := h d (List.mem_cons_self ..)
    have h2 := ih fun x hx => h x (List.mem_cons_of_mem _ hx)
    simp only [D.deps]; omega
/-! texts by their codes -/
open SX (S)
theorem ix_S {cs : List Nat} {k : Int} {c : Nat} (h0 : 0 ≤ k) (h : cs[k.toNat]? = some c) (hl : cs.length ≤ 10000000) : dIx (.str (S cs)) (.int k) = some (.str (S [c])) := by
  have h1 := (List.getElem?_eq_some_iff.mp h).1
  show (if (S cs).length ≤ sizeLine then (atI (S cs).cps.toList k).map (fun c => D.str ⟨#[c]⟩) else none) = _
  rw [if_pos (by rw [SX.S_len, sizeLine_eq]; omega)]
  have : atI (S cs).cps.toList k = some c := by
    show (ixN cs.length k).bind (fun j => cs[j]?) = some c
    unfold ixN
    rw [if_pos h0, if_pos (by omega)]
    exact h
  rw [this]
  rfl
theorem add_S {a b : List Nat} (h : a.length + b.length ≤ 10000000) : sAdd (.str (S a)) (.str (S b)) = some (.str (S (a ++ b))) := by
  show (if (S a).length + (S b).length ≤ sizeLine then some (D.str (S a ++ S b)) else none) = _
  rw [SX.S_len, SX.S_len, if_pos (by rw [sizeLine_eq]; omega), SX.S_cat]
theorem len_S {a : List Nat} (h : a.length ≤ 10000000) : fLen [.str (S a)] = some (.int a.length) := by
  show (if (S a).length ≤ sizeLine then some (D.int ((S a).length : Nat)) else none) = _
  rw [SX.S_len, if_pos (by rw [sizeLine_eq]; omega)]
theorem sl_S {a : List Nat} {i j : Nat} (h : a.length ≤ 10000000) (hij : i ≤ a.length) : dSl (some (i : Int)) (some (j : Int)) (.str (S a)) = some (.str (S ((a.drop i).take (min j a.length - i)))) := by
  show (if (S a).length ≤ sizeLine then some (D.str (cutS (S a) (some (i : Int)) (some (j : Int)))) else none) = _
  rw [SX.S_len, if_pos (by rw [sizeLine_eq]; omega)]
  unfold cutS
  rw [HT.sIx_nat, HT.sIx_nat, SX.S_len, Nat.min_eq_left hij]
theorem slTo_S {a : List Nat} {j : Nat} (h : a.length ≤ 10000000) : dSl none (some (j : Int)) (.str (S a)) = some (.str (S (a.take j))) := by
  show (if (S a).length ≤ sizeLine then some (D.str (cutS (S a) none (some (j : Int)))) else none) = _
  rw [SX.S_len, if_pos (by rw [sizeLine_eq]; omega), C8.cutS_slice, SX.slice_to (by omega)]
  rfl
theorem starts_S {a b : List Nat} (h : ∃ r, a = b ++ r) : fStarts (S a) (.str (S b)) = some (.bl true) := by
  obtain ⟨r, rfl⟩ := h
  show some (D.bl (decide (0 + (S b).length ≤ (S (b ++ r)).length) && _)) = _
  rw [PySem.StrLaws.subAt_eq, SX.S_len, SX.S_len]
  simp
theorem count_S {a : List Nat} {c : Nat} : fCount (S a) (.str (S [c])) = some (.int (a.count c : Nat)) := by
  show some (D.int (Txt.count (S a) ⟨#[c]⟩)) = _
  rw [PyProof.Rows.count_cnt]
  have : ∀ l : List Nat, PyProof.Rows.cnt c l = ((l.count c : Nat) : Int) := by
    intro l
    induction l with
    | nil => rfl
    | cons x l ih => 
      rw [PyProof.Rows.cnt_cons, ih, List.count_cons]
      by_cases q : x = c
      · subst q; simp; omega
      · simp [q]
  rw [this]
theorem strs_of (l : List (List Nat)) : strsOf (l.map fun c => D.str (S c)) = some (l.map S) := by
  induction l with
  | nil => rfl
  | cons x l ih => simp [strsOf, ih]
theorem joinL_nil : ∀ l : List (List Nat), TL.joinL [] l = l.flatten
  | [] => rfl
  | [x] => by simp [TL.joinL]
  | x :: y :: r => by simp only [TL.joinL, joinL_nil (y :: r)]; simp
theorem emp_S : ("" : Str) = S [] := by decide +kernel
theorem join_S0 {l : List (List Nat)} (h : l.flatten.length ≤ 10000000) : fJoin (S []) (.lst (l.map fun c => D.str (S c))) = some (.str (S l.flatten)) := by
  show (match strsOf (l.map fun c => D.str (S c)) with | some ys => (if joinOk (S []) ys then some (D.str (Txt.join (S []) ys)) else none) | none => none) = _
  rw [strs_of]
  dsimp only
  rw [SX.join_S, joinL_nil, if_pos]
  unfold joinOk
  rw [SX.S_len, SX.lens]
  rw [List.length_flatten] at h
  have e : (l.map fun x => x.length).sum = (l.map List.length).sum := rfl
  simp only [List.length_nil, Nat.mul_zero, Nat.add_zero]
  rw [e]
  omega
theorem sz_le {k : Nat} (h : k ≤ 10000000) : (k ≤ sizeLine) = True := eq_true (by rw [sizeLine_eq]; omega)
theorem sz_lt {k : Nat} (h : k ≤ 10000000) : (k < sizeLine) = True := eq_true (by rw [sizeLine_eq]; omega)
theorem strRep_S (a : List Nat) (n : Nat) : strRep (S a) n = S (List.replicate n a).flatten := rfl
theorem rep1 (c n : Nat) : (List.replicate n [c]).flatten = List.replicate n c := by
  induction n with
  | zero => rfl
  | succ n ih => rw [List.replicate_succ, List.replicate_succ, List.flatten_cons, ih]; rfl
theorem mul_S {a : List Nat} {n : Nat} (h : a.length * n ≤ 10000000) (hn : n ≤ 10000000) : dMul (.str (S a)) (.int n) = some (.str (S (List.replicate n a).flatten)) := by
  have e : dMul (.str (S a)) (.int n) = sMul (.str (S a)) (.int n) := rfl
  rw [e]
  unfold sMul
  dsimp only
  rw [SX.S_len, Int.toNat_natCast, ok62_nat hn, okSz_of h, Bool.and_self, if_pos rfl, strRep_S]
theorem slFrom_L {xs : List D} {i : Nat} (h : i ≤ xs.length) : dSl (some (i : Int)) none (.lst xs) = some (.lst (xs.drop i)) := by
  show some (D.lst (cutD xs (some (i : Int)) none)) = _
  unfold cutD
  rw [HT.sIx_nat, HT.sIx_none, Nat.min_eq_left h, List.take_of_length_le (by rw [List.length_drop]; omega)]
theorem slLast_L {xs : List D} (h : 1 ≤ xs.length) : dSl (some (-1)) none (.lst xs) = some (.lst (xs.drop (xs.length - 1))) := by
  show some (D.lst (cutD xs (some (-1)) none)) = _
  unfold cutD
  rw [HT.sIx_none]
  have e : HT.sIx xs.length 0 (some (-1)) = xs.length - 1 := by
    show (if (-1 : Int) < 0 then ((-1 : Int) + (xs.length : Int)).toNat else min (-1 : Int).toNat xs.length) = _
    rw [if_pos (by omega)]; omega
  rw [e, List.take_of_length_le (by rw [List.length_drop]; omega)]
theorem add_L {a b : List D} (h : a.length + b.length ≤ 10000000) : lAdd (.lst a) (.lst b) = some (.lst (a ++ b)) := if_pos (by rw [sizeLine_eq]; omega)
theorem mul_L0 {a : List D} : dMul (.lst a) (.int 0) = some (.lst []) := by
  have e : dMul (.lst a) (.int 0) = lMul (.lst a) (.int 0) := rfl
  rw [e]
  unfold lMul
  dsimp only
  rw [show (0 : Int).toNat = 0 from rfl, ok62_int (by omega) (by omega), okSz_of (by omega), Bool.and_self, if_pos rfl]; rfl
theorem mul_L1 {a : List D} (h : a.length ≤ 10000000) : dMul (.lst a) (.int 1) = some (.lst a) := by
  have e : dMul (.lst a) (.int 1) = lMul (.lst a) (.int 1) := rfl
  rw [e]
  unfold lMul
  dsimp only
  rw [show (1 : Int).toNat = 1 from rfl, ok62_int (by omega) (by omega), okSz_of (by omega), Bool.and_self, if_pos rfl]; simp
theorem in_ints {x : Int} {xs : List Int} : dIn (.int x) (.lst (xs.map .int)) = some (.bl (decide (x ∈ xs))) := by
  show (if flatD (.int x) = true ∧ (xs.map D.int).all flatD = true then some (inF (.int x) (xs.map D.int)) else none).map D.bl = _
  rw [if_pos (by simp [flatD])]
  simp [inF, eqF, List.any_map]
  induction xs with
  | nil => simp
  | cons y ys ih => 
    simp only [List.any_cons, List.mem_cons, ih]
    by_cases q : y = x
    · subst q; simp
    · have q' : ¬ x = y := fun z => q z.symm
      simp [q, q']
theorem inT_ints {x : Int} {xs : List Int} : dIn (.int x) (.tup (xs.map .int)) = some (.bl (decide (x ∈ xs))) := in_ints
theorem nin_of {a b : D} {c : Bool} (h : dIn a b = some (.bl c)) : dNin a b = some (.bl (!c)) := by
  unfold dIn at h
  unfold dNin
  cases q : dInB a b with
  | none => rw [q] at h; cases h
  | some x => rw [q] at h; cases h; rfl
end Vf
/-! Vf16: more loops: enumerate, while -/
namespace Vf
open PySem PySem.Spec PyProof.Rows L2
open SX (S)
theorem loop_enum {α : Type} {g : MT} {body : MS} {f : α → D} {xs : List α} {env : List Slot} {S : List D} (I : Nat → List Slot → List D → Prop) (h0 : I 0 env S)
    (st : ∀ (i : Nat) x env S, xs[i]? = some x → I i env S → ∃ env2 S2, turnF g body (.tup [.int (i : Nat), f x]) env S = .next env2 S2 ∧ I (i + 1) env2 S2) : ∃ env' S', loopF g body (enumD 0 (xs.map f)) env S = .next env' S' ∧ I xs.length env' S' := by
  have h := loop_do (g := g) (body := body) I (enumD 0 (xs.map f)) 0 env S h0 fun i d env S e hi => by
    obtain ⟨d', e', rfl⟩ := enumD_get 0 _ i d e
    rw [List.getElem?_map] at e'
    cases q : xs[i]? with
    | none => rw [q] at e'; cases e'
    | some x =>
      rw [q] at e'; cases e'; rw [Nat.zero_add] at hi ⊢
      have := st i x env S q hi
      exact this
  rw [enumD_len, List.length_map, Nat.zero_add] at h
  exact h
theorem loop_ds {g : MT} {body : MS} {ds : List D} {env : List Slot} {S : List D} (I : Nat → List Slot → List D → Prop) (h0 : I 0 env S)
    (st : ∀ i d env S, ds[i]? = some d → I i env S → ∃ env2 S2, turnF g body d env S = .next env2 S2 ∧ I (i + 1) env2 S2) : ∃ env' S', loopF g body ds env S = .next env' S' ∧ I ds.length env' S' := by
  have h := loop_do (g := g) (body := body) I ds 0 env S h0 fun i d env S e hi => by
    rw [Nat.zero_add] at hi ⊢
    exact st i d env S e hi
  rw [Nat.zero_add] at h
  exact h
/-- a while by a bound of its turns -/
theorem while_do {t : M Bool} {body : MS} (I : Nat → List Slot → List D → Prop) (Post : List Slot → List D → Prop)
    (st : ∀ n env S, I n env S → ∃ c env1 S1, t env S = .ok c env1 S1 ∧ (c = false → Post env1 S1) ∧ (c = true → ∃ env2 S2, body env1 S1 = .next env2 S2 ∧ ∃ m, m < n ∧ I m env2 S2)) :
    ∀ (fuel n : Nat) (env : List Slot) (S : List D), n < fuel → I n env S → ∃ env' S', loopW t body fuel env S = .next env' S' ∧ Post env' S'
  | 0, n, _, _, h, _ => absurd h (Nat.not_lt_zero _)
  | fuel + 1, n, env, S, h, hI => by
    obtain ⟨c, env1, S1, h1, h2, h3⟩ := st n env S hI
    unfold loopW
    rw [h1]
    cases c with
    | false => exact ⟨env1, S1, rfl, h2 rfl⟩
    | true =>
      obtain ⟨env2, S2, h4, m, hm, h5⟩ := h3 rfl
      obtain ⟨env', S', h6, h7⟩ := while_do I Post st fuel m env2 S2 (by omega) h5
      refine ⟨env', S', ?_, h7⟩
      simp only [Res.toS, if_true, h4]
      exact h6
theorem atI_nat' {α : Type} {xs : List α} {i : Int} {x : α} (h0 : 0 ≤ i) (h : xs[i.toNat]? = some x) : atI xs i = some x := by
  have h1 := (List.getElem?_eq_some_iff.mp h).1
  show (ixN xs.length i).bind (fun j => xs[j]?) = _
  unfold ixN
  rw [if_pos h0, if_pos (by omega)]
  exact h
theorem ix_L {xs : List D} {i : Int} {x : D} (h0 : 0 ≤ i) (h : xs[i.toNat]? = some x) : dIx (.lst xs) (.int i) = some x := atI_nat' h0 h
theorem ix_T {xs : List D} {i : Int} {x : D} (h0 : 0 ≤ i) (h : xs[i.toNat]? = some x) : dIx (.tup xs) (.int i) = some x := atI_nat' h0 h
theorem ix_last {xs : List D} {x : D} (h : xs.getLast? = some x) : dIx (.lst xs) (.int (-1)) = some x := by
  rw [List.getLast?_eq_getElem?] at h
  have h1 := (List.getElem?_eq_some_iff.mp h).1
  show (ixN xs.length (-1)).bind (fun j => xs[j]?) = _
  unfold ixN
  rw [if_neg (by omega), if_pos (by omega)]
  have e : ((-1 : Int) + (xs.length : Int)).toNat = xs.length - 1 := by omega
  show xs[((-1 : Int) + (xs.length : Int)).toNat]? = _
  rw [e]; exact h
theorem put_L {xs : List D} {i : Int} {v : D} (h0 : 0 ≤ i) (h : i.toNat < xs.length) : dSetD (.lst xs) (.int i) v = some (.lst (xs.set i.toNat v)) := by
  show (match ixN xs.length i with | some j => some (D.lst (xs.set j v)) | none => none) = _
  unfold ixN
  rw [if_pos h0, if_pos (by omega)]
theorem ints_of (l : List Int) : intsOf (l.map D.int) = some l := by
  induction l with
  | nil => rfl
  | cons x l ih => simp [intsOf, ih]
theorem sum_ints {α : Type} {xs : List α} {f : α → Int} : fSum [.lst (xs.map fun x => .int (f x))] = some (.int (xs.map f).sum) := by
  have e : (xs.map fun x => D.int (f x)) = (xs.map f).map D.int := by rw [List.map_map]; rfl
  show (intsOf (xs.map fun x => D.int (f x))).map (fun is => D.int is.sum) = _
  rw [e, ints_of]; rfl
theorem maxI_ge : ∀ (l : List Int) (x : Int), x ∈ l → x ≤ maxI l
  | [], _, h => by cases h
  | [y], x, h => by simp at h; subst h; simp [maxI]
  | y :: z :: r, x, h => by
    have ih := maxI_ge (z :: r)
    simp only [maxI]
    rcases List.mem_cons.mp h with rfl | h
    · exact Int.le_max_left _ _
    · exact Int.le_trans (ih x h) (Int.le_max_right _ _)
theorem max_ints {α : Type} {xs : List α} {f : α → Int} (h : xs ≠ []) : fMax [.lst (xs.map fun x => .int (f x))] = some (.int (maxI (xs.map f))) := by
  have e : (xs.map fun x => D.int (f x)) = (xs.map f).map D.int := by rw [List.map_map]; rfl
  show (match intsOf (xs.map fun x => D.int (f x)) with | some [] => none | some is => some (D.int (maxI is)) | none => none) = _
  rw [e, ints_of]
  cases xs with
  | nil => exact absurd rfl h
  | cons x xs => rfl
end Vf
/-! Vf17: promises with keyword-only defaults; the head's facts by a test of one's own. -/
namespace Vf
open PySem PySem.Spec PyProof.Rows L2
section
variable {P : Program} {w : World} {K : PySem.W.Frag} {mg : Str → Option Value} {base : Heap}
theorem spOf_dfl {n m : Nat} {F : Fn} {dvs : List V} {dkw : List D} (hd : ∀ W : Wd, Reps K W.G W.rho dvs dkw) (hm : dvs.length = m) : ∀ vs H Q E, spOf K n (fun ds S => F (ds ++ dkw) S) vs H Q E → spOf K (n + m) F (vs ++ dvs) H Q E :=
  fun vs H Q E ⟨hl, W, ds, S, s, r, p⟩ => ⟨by rw [List.length_append, hl, hm], W, ds ++ dkw, S, s, r.append (hd W), p⟩
/-- f(e, ..): the keyword-only parameters take their defaults -/
theorem GFn.ofD {x qual : Str} {params : Arguments} {body : List Stmt} {scope : Scope} {kws : List (Str × V)} {f : Addr} {fd : FuncData} {N ps : List Str} {k : Nat} {ms : MS} {dkw : List D} (n : Nat) (F : FunD K x qual params body scope [] kws f fd) (Sc : FnScope N ps scope) (hm : mg x = some (.ref f)) (hk : kws ≠ [])
    (hn : n + kws.length = ps.length) (hd : ∀ W : Wd, Reps K W.G W.rho (kws.map (·.2)) dkw)
    (h : ∀ (D : Addr) (doc pm : Value) (an : Option Addr) (cdv ct : Value) (us ks : List Value), us.length = n → ks.length = kws.length → KwChain D ((kws.map (·.1)).zip ks) (bindArgs (PySem.W.fnOf x qual params body scope .none (.ref D) doc pm an cdv ct) ⟨us, []⟩) (ps.zip (us ++ ks)))
    (hb : ∀ (X : Cx) (C : Ctx), X.prog = P → X.w = w → X.mg = mg → X.base = base → X.K = K → C.K = K → X.N = N → X.env.scope = scope → X.fn = (fun _ => true) → Oks X C k → ESs X C body ms) :
    GFn P w K mg base x n (k + 1) (fun ds S => fnOf N.length ms (ds ++ dkw) S) := by
  obtain ⟨ds, rv, hbd⟩ := F.binds0 n hk hn h
  have hlen : (kws.map (·.2)).length = kws.length := List.length_map ..
  refine ⟨f, fd, ps, _, ds, kws.map (·.2), hm, F.kp, hbd, rv, fn_ok F Sc hb, fun vs H Q E q => ?_⟩
  have := spOf_dfl (F := fnOf N.length ms) hd hlen vs H Q E q
  rw [hn] at this
  exact this
/-- f(e, .., k = v, ..): every keyword-only parameter is written -/
theorem GFnK.of {x qual : Str} {params : Arguments} {body : List Stmt} {scope : Scope} {kws : List (Str × V)} {f : Addr} {fd : FuncData} {N ps : List Str} {k : Nat} {ms : MS} (n : Nat) (ks : List Str) (F : FunD K x qual params body scope [] kws f fd) (Sc : FnScope N ps scope) (hm : mg x = some (.ref f)) (hk : kws ≠ [])
    (hn : n + ks.length = ps.length)
    (h : ∀ (D : Addr) (doc pm : Value) (an : Option Addr) (cdv ct : Value) (us ws : List Value), us.length = n → ws.length = ks.length → KwChain D [] (bindArgs (PySem.W.fnOf x qual params body scope .none (.ref D) doc pm an cdv ct) ⟨us, ks.zip ws⟩) (ps.zip (us ++ ws)))
    (hb : ∀ (X : Cx) (C : Ctx), X.prog = P → X.w = w → X.mg = mg → X.base = base → X.K = K → C.K = K → X.N = N → X.env.scope = scope → X.fn = (fun _ => true) → Oks X C k → ESs X C body ms) :
    GFnK P w K mg base x n ks (k + 1) (fnOf N.length ms) := by
  obtain ⟨mv, kb⟩ := F.kbinds0 n ks [] (fun vs mz zs => vs ++ zs) hk (fun q hq => by cases hq) (fun r1 _ r3 => r1.append r3) (fun D doc pm an cdv ct us mv ws l1 l2 l3 => h D doc pm an cdv ct us ws l1 l3)
  refine ⟨f, fd, ps, _, _, _, hm, F.kp, kb, fn_ok F Sc hb, fun vs zs H Q E _ _ q => ?_⟩
  rw [hn] at q
  exact q
end
theorem GFn.stuck {P : Program} {w : World} {K : PySem.W.Frag} {mg : Str → Option Value} {base : Heap} {x qual : Str} {params : Arguments} {body : List Stmt} {scope : Scope} {kws : List (Str × V)} {f : Addr} {fd : FuncData} {ps : List Str} {n k : Nat} (F : FunD K x qual params body scope [] kws f fd) (hm : mg x = some (.ref f)) (hbd : Binds K fd ps []) :
    GFn P w K mg base x n k (fun _ _ => .stuck) := by
  refine ⟨f, fd, ps, spOf K n (fun _ _ => .stuck), [], [], hm, F.kp, hbd, .nil, ⟨fun vs H Q E h => ?_, fun A outer s H args us vs Q E hr he hb hv h => ?_⟩, fun vs H Q E h => by rw [List.append_nil]; exact h⟩
  · obtain ⟨_, _, _, _, _, _, p⟩ := h; exact p.elim
  · obtain ⟨_, _, _, _, _, _, p⟩ := h; exact p.elim
/-! the law's promise -/
def spLaw (K : PySem.W.Frag) (F : Fn) : Sp := fun vs H Q _ => spOf K 1 F vs H Q fun _ _ _ => False
theorem law_CX0 {P : Program} {w : World} {K : PySem.W.Frag} {mg : Str → Option Value} {base : Heap} {k : Nat} {f : Addr} {fd : FuncData} {ps : List Str} {F : Fn} (h : FnOk P w K mg base (L2N.CX P w) k f fd ps (spOf K 1 F)) : FnOk P w K mg base CX0 k f fd ps (spLaw K F) := by
  refine ⟨fun vs H Q E q => h.len vs H Q (fun _ _ _ => False) q, fun A outer s H args us vs Q E hr he hb hv q => codeAny_mono (h.run A outer s H args us vs Q (fun _ _ _ => False) hr he hb hv q) fun r s' g => ?_⟩
  cases r with
  | ok o => cases o <;> exact g
  | error e =>
    obtain ⟨_, _, _, _, _, _, _, _, _, _, _, _, z⟩ := g
    exact z.elim
theorem spLaw_of {K : PySem.W.Frag} {F : Fn} (hF : ∀ is : List Int, is.length ≤ 63 → ∃ S', F [.scr is] [] = .ok (.bl true) S') {H : Hp} {a : Addr} {ns : List Int} {E : XK} (hl : ns.length ≤ 63) (hS : SqL K H a (ns.map V.int)) : spLaw K F [.ref a] H (fun v _ => v = .bl true) E := by
  obtain ⟨S', e⟩ := hF ns hl
  refine ⟨rfl, ⟨H, []⟩, [.scr ns], [], ⟨fun _ _ h => h, rfl, List.nodup_nil, fun n c p h => by simp at h, fun p h => by cases h⟩, .cons (.scr hS) .nil, ?_⟩
  rw [e]
  exact fun W' H' v _ _ r => r.bl_inv
/-! the head's facts -/
def obsX (ck : PySem.W.Frag → Bool) (fn : List He5.DefA) (K : PySem.W.Frag) : He.AlD := (ck K && fn.all fun d => d.ok K, fn.map fun d => He5.fnA K (d.at_ K))
def SaysX (ck : PySem.W.Frag → Bool) (fn : List He5.DefA) (K : PySem.W.Frag) : Prop := obsX ck fn K = He5.valA fn
def obsXG (n : Nat) (ck : PySem.W.Frag → Bool) (fn : List He5.DefA) (g : Addr → Option Obj) : He.AlD := obsX ck fn (He.frG g (He5.asA g n))
def hookX (n : Nat) (ck : PySem.W.Frag → Bool) (fn : List He5.DefA) : PySem.W.Hook where
  α := He.AlD
  obs := fun s => obsXG n ck fn s.heap.get?
  val := fun _ => He5.valA fn
  says := fun _ h => ∃ K : PySem.W.Frag, K.In h ∧ SaysX ck fn K
  of := fun _ _ e => ⟨_, He.frG_in, e⟩
  keeps := fun _ _ _ ⟨K, hK, c⟩ k => ⟨K, PySem.W.Frag.In.keeps hK k, c⟩
theorem obsXG_eq {n : Nat} {ck : PySem.W.Frag → Bool} {fn : List He5.DefA} {g : Addr → Option Obj} {s : Shared} (h : ∀ a, g a = s.heap.get? a) : obsXG n ck fn g = (hookX n ck fn).obs s := by
  have e : g = s.heap.get? := funext h
  rw [e] <;> rfl
section
variable {ck : PySem.W.Frag → Bool} {fn : List He5.DefA} {K : PySem.W.Frag}
theorem SaysX.ck_ (c : SaysX ck fn K) : ck K = true := (Bool.and_eq_true_iff.mp (show (ck K && fn.all fun d => d.ok K) = true from congrArg (fun z : He.AlD => z.1) c)).1
theorem SaysX.def_ (c : SaysX ck fn K) (i : Nat) {d : He5.DefA} (h : fn[i]? = some d := by rfl) : ∃ fd, FunD K d.name d.qual d.params d.body d.scope (d.dvs K) (d.kws K) (d.at_ K) fd := by
  have c2 := (Bool.and_eq_true_iff.mp (show (ck K && fn.all fun d => d.ok K) = true from congrArg (fun z : He.AlD => z.1) c)).2
  have e : fn.map (fun d => He5.fnA K (d.at_ K)) = fn.map He5.DefA.val := congrArg (fun z : He.AlD => z.2) c
  have e2 : (fn.map fun d => He5.fnA K (d.at_ K))[i]? = (fn.map He5.DefA.val)[i]? := by rw [e]
  rw [List.getElem?_map, List.getElem?_map, h] at e2
  exact He5.DefA.funD (Option.some.inj e2) (List.all_eq_true.mp c2 d (List.mem_of_getElem? h))
end
/-! own classes, errors -/
def eqO (a b : Option (Option Value)) : Bool := decide (a = b)
/-- the getter of the property f of the class at C -/
def pAd (K : PySem.W.Frag) (C : Addr) (f : Str) : Addr := match PySem.W.recIn K (He.ma K C f) "property" with
  | some (.ref g :: _) => g
  | _ => 0
def propB (K : PySem.W.Frag) (c f : Str) : Bool := eqO (PySem.W.findIn K (.ref (He.ga K c)) f) (some (some (.ref (He.ma K (He.ga K c) f)))) && (decide (PySem.W.specialIn K (.ref (He.ma K (He.ga K c) f)) "__get__" = some (some (.builtin "property.__get__"))) &&
  (decide (PySem.W.takesIn K (.ref (He.ma K (He.ga K c) f)) = some true) && (match PySem.W.recIn K (He.ma K (He.ga K c) f) "property" with
    | some (.ref g :: _) => decide (g = pAd K (He.ga K c) f)
    | _ => false)))
theorem propB_ok {K : PySem.W.Frag} {c f : Str} (h : propB K c f = true) : PropOf K (He.ga K c) f (He.ma K (He.ga K c) f) (pAd K (He.ga K c) f) := by
  unfold propB at h
  simp only [Bool.and_eq_true] at h
  obtain ⟨h1, h2, h3, h4⟩ := h
  refine ⟨of_decide_eq_true h1, of_decide_eq_true h2, of_decide_eq_true h3, ?_⟩
  revert h4
  split
  · rename_i g r e
    intro h4
    exact ⟨r, by rw [← of_decide_eq_true h4]; exact e⟩
  · intro h4; cases h4
def excCB (K : PySem.W.Frag) (D : Addr) : Bool := decide (PySem.W.findIn K (.ref D) "__getattribute__" = some (some (.builtin "BaseException.__getattribute__"))) && (decide (PySem.W.findIn K (.ref D) "__getattr__" = some none) && (decide (PySem.W.subIn K (.ref D) (.type "BaseException") = some true) &&
  (PySem.W.hasDictIn K D && (decide (PySem.W.findIn K (.ref D) "__class__" = some (some (.builtin "object.__class__"))) && (decide (PySem.W.specialIn K (.builtin "object.__class__") "__get__" = some (some (.builtin "getset_descriptor.__get__"))) &&
  (decide (PySem.W.takesIn K (.builtin "object.__class__") = some true) && decide (PySem.W.mroIn K D (.type "object") = some true)))))))
theorem excCB_ok {K : PySem.W.Frag} {D : Addr} (h : excCB K D = true) : ExcC K D := by
  unfold excCB at h
  simp only [Bool.and_eq_true] at h
  obtain ⟨h1, h2, h3, h4, h5, h6, h7, h8⟩ := h
  exact ⟨of_decide_eq_true h1, of_decide_eq_true h2, of_decide_eq_true h3, h4, of_decide_eq_true h5, of_decide_eq_true h6, of_decide_eq_true h7, of_decide_eq_true h8⟩
theorem gxc_ok {K : PySem.W.Frag} {mg : Str → Option Value} {c : Str} (h : (He.Fa.exc c).ok K = true) (hm : mg c = some (.ref (He.ga K c))) : GXc K mg c := by
  obtain ⟨h1, h2, h3, h4⟩ := He.exc_ok h
  exact ⟨_, _, _, _, PySem.F.excBase_ValueError, h1, hm, h2, h3, h4⟩
theorem gfd_ok {K : PySem.W.Frag} {f : Str} {cs : List Str} (h : (cs.all fun c => (He.Fa.cls c).ok K && (He.Fa.noat c f).ok K) = true) : GFd K f cs := fun c hc => by
  have := List.all_eq_true.mp h c hc
  simp only [Bool.and_eq_true] at this
  exact ⟨He.cls_ok this.1, He.noat_ok this.2⟩
end Vf
namespace K84
open PySem PySem.Spec PyProof.Rows L2 L2H Vf
def top (i : Nat) : Stmt := PySem.Challenge.pw_onetelling_k84_run_lot.main.body.getD i (.Pass ⟨0, 0, 0, 0⟩)
def meth (i j : Nat) : Stmt := match top i with
  | .ClassDef (body := b) .. => b.getD j (.Pass ⟨0, 0, 0, 0⟩)
  | s => s
def excs : List Str := ["BadFraction", "BadShare", "BadPoly", "BadEnds", "BadLot", "BadTelling", "BadVerdict", "BadDesign", "NotStop", "BadText", "BadPlan", "BadCourse", "BadPage", "TooLong", "TooDeep", "TooMany", "Untold", "HasGap", "Begun", "Unknown", "Twice", "Stopped", "NotEnded", "Refused"]
def supers : List (Str × List Str) := [("BadLot", ["BadLot", "TrialError"])]
def subX (c n : Str) : Bool := match supers.lookup c with
  | some l => decide (n ∈ l)
  | none => false
/-! law_mixed -/
def N_law_mixed : List Str := ["number", "turn", "many", "first", "value", "size", "k", "again"]
def ps_law_mixed : List Str := ["number", "turn", "many"]
abbrev st_law_mixed : Stmt := top 42
theorem sc_law_mixed : FnScope N_law_mixed ps_law_mixed (defScope st_law_mixed) := ⟨rfl, rfl, rfl, by decide +kernel, rfl, by decide +kernel, by decide +kernel⟩
def ms_law_mixed : MS := (sSeq (sSet 3 (mOp2 dMod (oVal (mB fInt (aoCons (oVal (mOp2 dAdd (oVal (mOp2 dAdd (oVal (mOp2 dMul (oVal (mOp2 dMod (oVal (mB fInt (aoCons (oLoc 0) aoNil))) (oVal (mCst (.int 2147483647))))) (oVal (mCst (.int 48271))))) (oVal (mOp2 dMul (oLoc 1) (oVal (mCst (.int 69621))))))) (oVal (mCst (.int 101))))) aoNil))) (oVal (mCst (.int 2147483647)))))
  (sSeq (sSet 4 (mCst (.int 0)))
  (sSeq (sSet 5 (mCst (.int 1)))
  (sSeq (sFor (iR1 (aoCons (oVal (mCst (.int 24))) aoNil)) (gNm 6) (sIf (bOf (mOp2 dLt (oLoc 5) (oVal (mOp2 dMul (oLoc 2) (oVal (mCst (.int 1024))))))) (sSeq (sSet 3 (mOp2 dMod (oVal (mB fInt (aoCons (oVal (mOp2 dAdd (oVal (mOp2 dAdd (oVal (mOp2 dAdd (oVal (mOp2 dAdd (oVal (mOp2 dMul (oLoc 3) (oLoc 3))) (oVal (mOp2 dFdiv (oLoc 3) (oVal (mCst (.int 5))))))) (oVal (mOp2 dMul (oLoc 1) (oVal (mCst (.int 16807))))))) (oVal (mOp2 dMul (oLoc 6) (oVal (mCst (.int 7919))))))) (oVal (mCst (.int 13))))) aoNil))) (oVal (mCst (.int 2147483629)))))
  (sSeq (sSet 7 (mOp2 dMod (oVal (mB fInt (aoCons (oVal (mOp2 dAdd (oVal (mOp2 dAdd (oVal (mOp2 dMul (oLoc 3) (oVal (mCst (.int 69621))))) (oVal (mOp2 dFdiv (oLoc 3) (oVal (mCst (.int 65537))))))) (oVal (mCst (.int 7))))) aoNil))) (oVal (mCst (.int 2147483587)))))
  (sSeq (sSet 4 (mOp2 dAdd (oVal (mOp2 dMul (oLoc 4) (oVal (mCst (.int 268435449))))) (oVal (mOp2 dFdiv (oLoc 7) (oVal (mCst (.int 8)))))))
  (sSet 5 (mOp2 dMul (oLoc 5) (oVal (mCst (.int 268435449)))))))) sNext))
  (sRet (mOp2 dMod (oVal (mB fInt (aoCons (oLoc 4) aoNil))) (oLoc 2)))))))
def F_law_mixed : Fn := fnOf 8 ms_law_mixed
theorem b_law_mixed {P : Program} {w : World} {K : PySem.W.Frag} {mg : Str → Option Value} {base : Heap} (hb_int : mg "int" = none) (hb_range : mg "range" = none) (X : Cx) (C : Vf.Ctx) (e1 : X.prog = P) (e2 : X.w = w) (e3 : X.mg = mg) (e4 : X.base = base) (e5 : X.K = K) (e6 : C.K = K) (e7 : X.N = N_law_mixed)
    (e8 : X.env.scope = defScope st_law_mixed) (e9 : X.fn = fun _ => true) (ok : Oks X C 0) : ESs X C (defBody st_law_mixed) ms_law_mixed := by
  obtain ⟨_, _, _, _, _, A, _, s0, H0, ⟨_, l, gl, cl, qu, fu, co, fr, bu⟩, ou, sk, ex, _, calm, pn, xe⟩ := X
  obtain ⟨_, wish⟩ := C
  dsimp only at e1 e2 e3 e4 e5 e6 e7 e8 e9
  subst e1 e2 e3 e4 e5 e6 e7 e8 e9
  have okc := ok.toOkc
  exact (ss_cons (s_set 3 okc.nd (e_op op_mod od_mod (o_val (e_callTy call_int1 cd_int hb_int rfl (ao_cons (o_val (e_op op_addAll od_add (o_val (e_op op_addAll od_add (o_val (e_op op_mulAll od_mul (o_val (e_op op_mod od_mod (o_val (e_callTy call_int1 cd_int hb_int rfl (ao_cons (o_loc 0) ao_nil))) (o_val e_int))) (o_val e_int))) (o_val (e_op op_mulAll od_mul (o_loc 1) (o_val e_int))))) (o_val e_int))) ao_nil))) (o_val e_int)))
    (ss_cons (s_set 4 okc.nd e_int)
    (ss_cons (s_set 5 okc.nd e_int)
    (ss_cons (s_for okc.calm ok.po (i_range1 hb_range (ao_cons (o_val e_int) ao_nil)) (g_name 6 okc.nd) (ss_one (s_if (b_cmp op_lt od_lt (o_loc 5) (o_val (e_op op_mulAll od_mul (o_loc 2) (o_val e_int)))) (ss_cons (s_set 3 okc.nd (e_op op_mod od_mod (o_val (e_callTy call_int1 cd_int hb_int rfl (ao_cons (o_val (e_op op_addAll od_add (o_val (e_op op_addAll od_add (o_val (e_op op_addAll od_add (o_val (e_op op_addAll od_add (o_val (e_op op_mulAll od_mul (o_loc 3) (o_loc 3))) (o_val (e_op op_fdivW od_fdiv (o_loc 3) (o_val e_int))))) (o_val (e_op op_mulAll od_mul (o_loc 1) (o_val e_int))))) (o_val (e_op op_mulAll od_mul (o_loc 6) (o_val e_int))))) (o_val e_int))) ao_nil))) (o_val e_int)))
    (ss_cons (s_set 7 okc.nd (e_op op_mod od_mod (o_val (e_callTy call_int1 cd_int hb_int rfl (ao_cons (o_val (e_op op_addAll od_add (o_val (e_op op_addAll od_add (o_val (e_op op_mulAll od_mul (o_loc 3) (o_val e_int))) (o_val (e_op op_fdivW od_fdiv (o_loc 3) (o_val e_int))))) (o_val e_int))) ao_nil))) (o_val e_int)))
    (ss_cons (s_set 4 okc.nd (e_op op_addAll od_add (o_val (e_op op_mulAll od_mul (o_loc 4) (o_val e_int))) (o_val (e_op op_fdivW od_fdiv (o_loc 7) (o_val e_int)))))
    (ss_one (s_set 5 okc.nd (e_op op_mulAll od_mul (o_loc 5) (o_val e_int))))))) ss_nil)))
    (ss_one (s_ret (e_op op_mod od_mod (o_val (e_callTy call_int1 cd_int hb_int rfl (ao_cons (o_loc 4) ao_nil))) (o_loc 2))))))))
theorem g_law_mixed {P : Program} {w : World} {K : PySem.W.Frag} {mg : Str → Option Value} {base : Heap} {qu : Str} {f : Addr} {fd : FuncData} (hb_int : mg "int" = none) (hb_range : mg "range" = none) (F : FunD K "_law_mixed" qu (defArgs st_law_mixed) (defBody st_law_mixed) (defScope st_law_mixed) [] [] f fd) (hm : mg "_law_mixed" = some (.ref f)) : GFn P w K mg base "_law_mixed" 3 1 F_law_mixed :=
  GFn.of (ps := ps_law_mixed) F sc_law_mixed hm (F.bindsN fun _ _ _ _ _ _ us hl => match us, hl with | [_, _, _], _ => rfl) (b_law_mixed hb_int hb_range)
/-! law_draws -/
def N_law_draws : List Str := ["script", "seed", "cell"]
def ps_law_draws : List Str := ["script"]
abbrev st_law_draws : Stmt := top 43
theorem sc_law_draws : FnScope N_law_draws ps_law_draws (defScope st_law_draws) := ⟨rfl, rfl, rfl, by decide +kernel, rfl, by decide +kernel, by decide +kernel⟩
def ms_law_draws : MS := (sSeq (sSet 1 (mOp2 dAdd (oVal (mCst (.int 1))) (oVal (mB fLen (aoCons (oLoc 0) aoNil)))))
  (sSeq (sFor (iScr (mVar 0)) (gNm 2) (sSet 1 (mOp2 dMod (oVal (mB fInt (aoCons (oVal (mOp2 dAdd (oVal (mOp2 dAdd (oVal (mOp2 dMul (oLoc 1) (oVal (mCst (.int 31))))) (oVal (mOp2 dMod (oVal (mB fInt (aoCons (oLoc 2) aoNil))) (oVal (mCst (.int 2147483647))))))) (oVal (mCst (.int 17))))) aoNil))) (oVal (mCst (.int 2147483629))))))
  (sRetN (nDict [.inr "cells", .inr "at", .inr "rest", .inr "left", .inr "turn", .inr "seed"] (aCons (mB fList (aoCons (oLoc 0) aoNil)) (aCons (mCst (.int 0)) (aCons (mCst (.int 0)) (aCons (mCst (.int 0)) (aCons (mCst (.int 0)) (aCons (mVar 1) aNil))))))))))
def F_law_draws : Fn := fnOf 3 ms_law_draws
theorem b_law_draws {P : Program} {w : World} {K : PySem.W.Frag} {mg : Str → Option Value} {base : Heap} (hb_len : mg "len" = none) (hb_int : mg "int" = none) (hb_list : mg "list" = none) (X : Cx) (C : Vf.Ctx) (e1 : X.prog = P) (e2 : X.w = w) (e3 : X.mg = mg) (e4 : X.base = base) (e5 : X.K = K) (e6 : C.K = K) (e7 : X.N = N_law_draws)
    (e8 : X.env.scope = defScope st_law_draws) (e9 : X.fn = fun _ => true) (ok : Oks X C 0) : ESs X C (defBody st_law_draws) ms_law_draws := by
  obtain ⟨_, _, _, _, _, A, _, s0, H0, ⟨_, l, gl, cl, qu, fu, co, fr, bu⟩, ou, sk, ex, _, calm, pn, xe⟩ := X
  obtain ⟨_, wish⟩ := C
  dsimp only at e1 e2 e3 e4 e5 e6 e7 e8 e9
  subst e1 e2 e3 e4 e5 e6 e7 e8 e9
  have okc := ok.toOkc
  exact (ss_cons (s_set 1 okc.nd (e_op op_addAll od_add (o_val e_int) (o_val (e_callB (call_len.or call_lenD) cd_len hb_len rfl (ao_cons (o_loc 0) ao_nil)))))
    (ss_cons (s_for okc.calm ok.po (i_scr (e_var 0)) (g_name 2 okc.nd) (ss_one (s_set 1 okc.nd (e_op op_mod od_mod (o_val (e_callTy call_int1 cd_int hb_int rfl (ao_cons (o_val (e_op op_addAll od_add (o_val (e_op op_addAll od_add (o_val (e_op op_mulAll od_mul (o_loc 1) (o_val e_int))) (o_val (e_op op_mod od_mod (o_val (e_callTy call_int1 cd_int hb_int rfl (ao_cons (o_loc 2) ao_nil))) (o_val e_int))))) (o_val e_int))) ao_nil))) (o_val e_int)))))
    (ss_one (s_retN (n_dict (ed_cons (e_new (n_callTy call_list_of nd_list hb_list rfl (ao_cons (o_loc 0) ao_nil))) (ed_cons e_int (ed_cons e_int (ed_cons e_int (ed_cons e_int (ed_cons (e_var 1) ed_nil)))))))))))
theorem g_law_draws {P : Program} {w : World} {K : PySem.W.Frag} {mg : Str → Option Value} {base : Heap} {qu : Str} {f : Addr} {fd : FuncData} (hb_len : mg "len" = none) (hb_int : mg "int" = none) (hb_list : mg "list" = none) (F : FunD K "_law_draws" qu (defArgs st_law_draws) (defBody st_law_draws) (defScope st_law_draws) [] [] f fd) (hm : mg "_law_draws" = some (.ref f)) : GFn P w K mg base "_law_draws" 1 1 F_law_draws :=
  GFn.of (ps := ps_law_draws) F sc_law_draws hm (F.bindsN fun _ _ _ _ _ _ us hl => match us, hl with | [_], _ => rfl) (b_law_draws hb_len hb_int hb_list)
/-! law_opened -/
def N_law_opened : List Str := ["store", "wide", "cells", "k", "cell"]
def ps_law_opened : List Str := ["store"]
abbrev st_law_opened : Stmt := top 44
theorem sc_law_opened : FnScope N_law_opened ps_law_opened (defScope st_law_opened) := ⟨rfl, rfl, rfl, by decide +kernel, rfl, by decide +kernel, by decide +kernel⟩
def ms_law_opened : MS := (sSeq (sSet 1 (mOp2 dPow (oVal (mCst (.int 10))) (oVal (mCst (.int 64)))))
  (sSeq (sSet 1 (mOp2 dMul (oVal (mOp2 dMul (oLoc 1) (oLoc 1))) (oLoc 1)))
  (sSeq (sSet 1 (mOp2 dMul (oVal (mOp2 dMul (oVal (mOp2 dMul (oLoc 1) (oLoc 1))) (oLoc 1))) (oLoc 1)))
  (sSeq (sSet 2 (mDGet (oLoc 0) (mCst (.str "cells"))))
  (sFor (iR2 (aoCons (oVal (mDGet (oLoc 0) (mCst (.str "at")))) (aoCons (oVal (mB fLen (aoCons (oLoc 2) aoNil))) aoNil))) (gNm 3) (sIf (bAnd (bOf (mOp2 dEq (oVal (mDGet (oLoc 0) (mCst (.str "rest")))) (oVal (mCst (.int 0))))) (bOf (mOp2 dEq (oVal (mDGet (oLoc 0) (mCst (.str "left")))) (oVal (mCst (.int 0)))))) (sSeq (sSet 4 (mB fInt (aoCons (oVal (mOp2 dIx (oLoc 2) (oLoc 3))) aoNil)))
  (sSeq (sPut (oLoc 0) (mCst (.str "at")) (mOp2 dAdd (oLoc 3) (oVal (mCst (.int 1)))))
  (sIf (bOf (mOp2 dLt (oLoc 4) (oVal (mOp2 dPow (oVal (mCst (.int 10))) (oVal (mCst (.int 18))))))) (sPut (oLoc 0) (mCst (.str "left")) (mCst (.int 2))) (sPut (oLoc 0) (mCst (.str "rest")) (mOp2 dMod (oLoc 4) (oLoc 1)))))) sNext))))))
def F_law_opened : Fn := fnOf 5 ms_law_opened
theorem b_law_opened {P : Program} {w : World} {K : PySem.W.Frag} {mg : Str → Option Value} {base : Heap} (hb_len : mg "len" = none) (hb_range : mg "range" = none) (hb_int : mg "int" = none) (X : Cx) (C : Vf.Ctx) (e1 : X.prog = P) (e2 : X.w = w) (e3 : X.mg = mg) (e4 : X.base = base) (e5 : X.K = K) (e6 : C.K = K) (e7 : X.N = N_law_opened)
    (e8 : X.env.scope = defScope st_law_opened) (e9 : X.fn = fun _ => true) (ok : Oks X C 0) : ESs X C (defBody st_law_opened) ms_law_opened := by
  obtain ⟨_, _, _, _, _, A, _, s0, H0, ⟨_, l, gl, cl, qu, fu, co, fr, bu⟩, ou, sk, ex, _, calm, pn, xe⟩ := X
  obtain ⟨_, wish⟩ := C
  dsimp only at e1 e2 e3 e4 e5 e6 e7 e8 e9
  subst e1 e2 e3 e4 e5 e6 e7 e8 e9
  have okc := ok.toOkc
  exact (ss_cons (s_set 1 okc.nd (e_op op_pow od_pow (o_val e_int) (o_val e_int)))
    (ss_cons (s_set 1 okc.nd (e_op op_mulAll od_mul (o_val (e_op op_mulAll od_mul (o_loc 1) (o_loc 1))) (o_loc 1)))
    (ss_cons (s_set 1 okc.nd (e_op op_mulAll od_mul (o_val (e_op op_mulAll od_mul (o_val (e_op op_mulAll od_mul (o_loc 1) (o_loc 1))) (o_loc 1))) (o_loc 1)))
    (ss_cons (s_set 2 okc.nd (e_dget okc (o_loc 0) e_str))
    (ss_one (s_for okc.calm ok.po (i_range2 hb_range (ao_cons (o_val (e_dget okc (o_loc 0) e_str)) (ao_cons (o_val (e_callB (call_len.or call_lenD) cd_len hb_len rfl (ao_cons (o_loc 2) ao_nil))) ao_nil))) (g_name 3 okc.nd) (ss_one (s_if (b_w (w_and (b_cmp (op_eqA okc.room.units) od_eq (o_val (e_dget okc (o_loc 0) e_str)) (o_val e_int)) (w_and1 (b_cmp (op_eqA okc.room.units) od_eq (o_val (e_dget okc (o_loc 0) e_str)) (o_val e_int))))) (ss_cons (s_set 4 okc.nd (e_callTy call_int1 cd_int hb_int rfl (ao_cons (o_val (e_ix ix_seq od_ix (o_loc 2) (o_loc 3))) ao_nil)))
    (ss_cons (s_put okc (o_loc 0) e_str (e_op op_addAll od_add (o_loc 3) (o_val e_int)))
    (ss_one (s_if (b_cmp op_lt od_lt (o_loc 4) (o_val (e_op op_pow od_pow (o_val e_int) (o_val e_int)))) (ss_one (s_put okc (o_loc 0) e_str e_int)) (ss_one (s_put okc (o_loc 0) e_str (e_op op_mod od_mod (o_loc 4) (o_loc 1)))))))) ss_nil))))))))
theorem g_law_opened {P : Program} {w : World} {K : PySem.W.Frag} {mg : Str → Option Value} {base : Heap} {qu : Str} {f : Addr} {fd : FuncData} (hb_len : mg "len" = none) (hb_range : mg "range" = none) (hb_int : mg "int" = none) (F : FunD K "_law_opened" qu (defArgs st_law_opened) (defBody st_law_opened) (defScope st_law_opened) [] [] f fd) (hm : mg "_law_opened" = some (.ref f)) : GFn P w K mg base "_law_opened" 1 1 F_law_opened :=
  GFn.of (ps := ps_law_opened) F sc_law_opened hm (F.bindsN fun _ _ _ _ _ _ us hl => match us, hl with | [_], _ => rfl) (b_law_opened hb_len hb_range hb_int)
/-! law_take -/
def N_law_take : List Str := ["store", "many", "number", "value"]
def ps_law_take : List Str := ["store", "many"]
abbrev st_law_take : Stmt := top 45
theorem sc_law_take : FnScope N_law_take ps_law_take (defScope st_law_take) := ⟨rfl, rfl, rfl, by decide +kernel, rfl, by decide +kernel, by decide +kernel⟩
def ms_law_take : MS := (sSeq (sIf (bOf (mOp2 dLt (oLoc 1) (oVal (mCst (.int 2))))) (sRet (mCst (.int 0))) sNext)
  (sSeq (sIf (bAnd (bOf (mOp2 dEq (oVal (mDGet (oLoc 0) (mCst (.str "rest")))) (oVal (mCst (.int 0))))) (bOf (mOp2 dEq (oVal (mDGet (oLoc 0) (mCst (.str "left")))) (oVal (mCst (.int 0)))))) (sExpr (mCall 1 F_law_opened (aCons (mVar 0) aNil))) sNext)
  (sSeq (sIf (bOf (mOp2 dGt (oVal (mDGet (oLoc 0) (mCst (.str "rest")))) (oVal (mCst (.int 0))))) (sSeq (sSet 3 (mOp2 dMod (oVal (mB fInt (aoCons (oVal (mDGet (oLoc 0) (mCst (.str "rest")))) aoNil))) (oLoc 1)))
  (sSeq (sPut (oLoc 0) (mCst (.str "rest")) (mOp2 dFdiv (oVal (mB fInt (aoCons (oVal (mDGet (oLoc 0) (mCst (.str "rest")))) aoNil))) (oLoc 1)))
  (sRet (mVar 3)))) sNext)
  (sSeq (sSet 2 (mDGet (oLoc 0) (mCst (.str "seed"))))
  (sSeq (sIf (bOf (mOp2 dGt (oVal (mDGet (oLoc 0) (mCst (.str "left")))) (oVal (mCst (.int 0))))) (sSeq (sSet 2 (mOp2 dIx (oVal (mDGet (oLoc 0) (mCst (.str "cells")))) (oVal (mOp2 iSub (oVal (mDGet (oLoc 0) (mCst (.str "at")))) (oVal (mCst (.int 1)))))))
  (sPut (oLoc 0) (mCst (.str "left")) (mOp2 iSub (oVal (mDGet (oLoc 0) (mCst (.str "left")))) (oVal (mCst (.int 1)))))) sNext)
  (sSeq (sPut (oLoc 0) (mCst (.str "turn")) (mOp2 dAdd (oVal (mDGet (oLoc 0) (mCst (.str "turn")))) (oVal (mCst (.int 1)))))
  (sRet (mCall 3 F_law_mixed (aCons (mVar 2) (aCons (mDGet (oLoc 0) (mCst (.str "turn"))) (aCons (mVar 1) aNil)))))))))))
def F_law_take : Fn := fnOf 4 ms_law_take
theorem b_law_take {P : Program} {w : World} {K : PySem.W.Frag} {mg : Str → Option Value} {base : Heap} (G_law_opened : GFn P w K mg base "_law_opened" 1 1 F_law_opened) (hb_int : mg "int" = none) (G_law_mixed : GFn P w K mg base "_law_mixed" 3 1 F_law_mixed) (X : Cx) (C : Vf.Ctx) (e1 : X.prog = P) (e2 : X.w = w) (e3 : X.mg = mg) (e4 : X.base = base) (e5 : X.K = K) (e6 : C.K = K) (e7 : X.N = N_law_take)
    (e8 : X.env.scope = defScope st_law_take) (e9 : X.fn = fun _ => true) (ok : Oks X C 1) : ESs X C (defBody st_law_take) ms_law_take := by
  obtain ⟨_, _, _, _, _, A, _, s0, H0, ⟨_, l, gl, cl, qu, fu, co, fr, bu⟩, ou, sk, ex, _, calm, pn, xe⟩ := X
  obtain ⟨_, wish⟩ := C
  dsimp only at e1 e2 e3 e4 e5 e6 e7 e8 e9
  subst e1 e2 e3 e4 e5 e6 e7 e8 e9
  have okc := ok.toOkc
  exact (ss_cons (s_if (b_cmp op_lt od_lt (o_loc 1) (o_val e_int)) (ss_one (s_ret e_int)) ss_nil)
    (ss_cons (s_if (b_w (w_and (b_cmp (op_eqA okc.room.units) od_eq (o_val (e_dget okc (o_loc 0) e_str)) (o_val e_int)) (w_and1 (b_cmp (op_eqA okc.room.units) od_eq (o_val (e_dget okc (o_loc 0) e_str)) (o_val e_int))))) (ss_one (s_expr (e_call G_law_opened okc (by decide) (a_cons (e_var 0) a_nil)))) ss_nil)
    (ss_cons (s_if (b_cmp op_gt od_gt (o_val (e_dget okc (o_loc 0) e_str)) (o_val e_int)) (ss_cons (s_set 3 okc.nd (e_op op_mod od_mod (o_val (e_callTy call_int1 cd_int hb_int rfl (ao_cons (o_val (e_dget okc (o_loc 0) e_str)) ao_nil))) (o_loc 1)))
    (ss_cons (s_put okc (o_loc 0) e_str (e_op op_fdivW od_fdiv (o_val (e_callTy call_int1 cd_int hb_int rfl (ao_cons (o_val (e_dget okc (o_loc 0) e_str)) ao_nil))) (o_loc 1)))
    (ss_one (s_ret (e_var 3))))) ss_nil)
    (ss_cons (s_set 2 okc.nd (e_dget okc (o_loc 0) e_str))
    (ss_cons (s_if (b_cmp op_gt od_gt (o_val (e_dget okc (o_loc 0) e_str)) (o_val e_int)) (ss_cons (s_set 2 okc.nd (e_ix ix_seq od_ix (o_val (e_dget okc (o_loc 0) e_str)) (o_val (e_op op_sub od_iSub (o_val (e_dget okc (o_loc 0) e_str)) (o_val e_int)))))
    (ss_one (s_put okc (o_loc 0) e_str (e_op op_sub od_iSub (o_val (e_dget okc (o_loc 0) e_str)) (o_val e_int))))) ss_nil)
    (ss_cons (s_put okc (o_loc 0) e_str (e_op op_addAll od_add (o_val (e_dget okc (o_loc 0) e_str)) (o_val e_int)))
    (ss_one (s_ret (e_call G_law_mixed okc (by decide) (a_cons (e_var 2) (a_cons (e_dget okc (o_loc 0) e_str) (a_cons (e_var 1) a_nil))))))))))))
theorem g_law_take {P : Program} {w : World} {K : PySem.W.Frag} {mg : Str → Option Value} {base : Heap} {qu : Str} {f : Addr} {fd : FuncData} (G_law_opened : GFn P w K mg base "_law_opened" 1 1 F_law_opened) (hb_int : mg "int" = none) (G_law_mixed : GFn P w K mg base "_law_mixed" 3 1 F_law_mixed) (F : FunD K "_law_take" qu (defArgs st_law_take) (defBody st_law_take) (defScope st_law_take) [] [] f fd) (hm : mg "_law_take" = some (.ref f)) : GFn P w K mg base "_law_take" 2 2 F_law_take :=
  GFn.of (ps := ps_law_take) F sc_law_take hm (F.bindsN fun _ _ _ _ _ _ us hl => match us, hl with | [_, _], _ => rfl) (b_law_take G_law_opened hb_int G_law_mixed)
/-! law_shuffled -/
def N_law_shuffled : List Str := ["store", "items", "left", "out", "k"]
def ps_law_shuffled : List Str := ["store", "items"]
abbrev st_law_shuffled : Stmt := top 46
theorem sc_law_shuffled : FnScope N_law_shuffled ps_law_shuffled (defScope st_law_shuffled) := ⟨rfl, rfl, rfl, by decide +kernel, rfl, by decide +kernel, by decide +kernel⟩
def ms_law_shuffled : MS := (sSeq (sSetN 2 (mB fList (aoCons (oLoc 1) aoNil)))
  (sSeq (sSetN 3 (nLst aNil))
  (sSeq (sFor (iR1 (aoCons (oVal (mB fLen (aoCons (oLoc 1) aoNil))) aoNil)) (gNm 4) (sExpr (mMut fApp (oLoc 3) (aCons (mMut fPopAt (oLoc 2) (aCons (mCall 2 F_law_take (aCons (mVar 0) (aCons (mB fLen (aoCons (oLoc 2) aoNil)) aNil))) aNil)) aNil))))
  (sRetL 3))))
def F_law_shuffled : Fn := fnOf 5 ms_law_shuffled
theorem b_law_shuffled {P : Program} {w : World} {K : PySem.W.Frag} {mg : Str → Option Value} {base : Heap} (hb_list : mg "list" = none) (hb_len : mg "len" = none) (hb_range : mg "range" = none) (G_law_take : GFn P w K mg base "_law_take" 2 2 F_law_take) (X : Cx) (C : Vf.Ctx) (e1 : X.prog = P) (e2 : X.w = w) (e3 : X.mg = mg) (e4 : X.base = base) (e5 : X.K = K) (e6 : C.K = K) (e7 : X.N = N_law_shuffled)
    (e8 : X.env.scope = defScope st_law_shuffled) (e9 : X.fn = fun _ => true) (ok : Oks X C 2) : ESs X C (defBody st_law_shuffled) ms_law_shuffled := by
  obtain ⟨_, _, _, _, _, A, _, s0, H0, ⟨_, l, gl, cl, qu, fu, co, fr, bu⟩, ou, sk, ex, _, calm, pn, xe⟩ := X
  obtain ⟨_, wish⟩ := C
  dsimp only at e1 e2 e3 e4 e5 e6 e7 e8 e9
  subst e1 e2 e3 e4 e5 e6 e7 e8 e9
  have okc := ok.toOkc
  exact (ss_cons (s_setN 2 okc.nd (n_callTy call_list_of nd_list hb_list rfl (ao_cons (o_loc 1) ao_nil)))
    (ss_cons (s_setN 3 okc.nd (n_lst a_nil))
    (ss_cons (s_for okc.calm ok.po (i_range1 hb_range (ao_cons (o_val (e_callB (call_len.or call_lenD) cd_len hb_len rfl (ao_cons (o_loc 1) ao_nil))) ao_nil)) (g_name 4 okc.nd) (ss_one (s_expr (e_append rfl (o_loc 3) (a_cons (e_popAt rfl (o_loc 2) (a_cons (e_call G_law_take okc (by decide) (a_cons (e_var 0) (a_cons (e_callB (call_len.or call_lenD) cd_len hb_len rfl (ao_cons (o_loc 2) ao_nil)) a_nil))) a_nil)) a_nil)))))
    (ss_one (s_retL 3)))))
theorem g_law_shuffled {P : Program} {w : World} {K : PySem.W.Frag} {mg : Str → Option Value} {base : Heap} {qu : Str} {f : Addr} {fd : FuncData} (hb_list : mg "list" = none) (hb_len : mg "len" = none) (hb_range : mg "range" = none) (G_law_take : GFn P w K mg base "_law_take" 2 2 F_law_take) (F : FunD K "_law_shuffled" qu (defArgs st_law_shuffled) (defBody st_law_shuffled) (defScope st_law_shuffled) [] [] f fd) (hm : mg "_law_shuffled" = some (.ref f)) : GFn P w K mg base "_law_shuffled" 2 3 F_law_shuffled :=
  GFn.of (ps := ps_law_shuffled) F sc_law_shuffled hm (F.bindsN fun _ _ _ _ _ _ us hl => match us, hl with | [_, _], _ => rfl) (b_law_shuffled hb_list hb_len hb_range G_law_take)
/-! law_things -/
def N_law_things : List Str := ["store", "many", "kind", "k"]
def ps_law_things : List Str := ["store", "many"]
abbrev st_law_things : Stmt := top 47
theorem sc_law_things : FnScope N_law_things ps_law_things (defScope st_law_things) := ⟨rfl, rfl, rfl, by decide +kernel, rfl, by decide +kernel, by decide +kernel⟩
def ms_law_things : MS := (sSeq (sSet 2 (mCall 2 F_law_take (aCons (mVar 0) (aCons (mCst (.int 6)) aNil))))
  (sSeq (sIf (bOf (mOp2 dLt (oLoc 2) (oVal (mCst (.int 2))))) (sRet (mOp2 dMul (oVal (mOp2 dIx (oVal (mCst (.str "gb"))) (oLoc 2))) (oLoc 1))) sNext)
  (sRet (mTx fJoin (mCst (.str "")) (oVal (nLc (iR1 (aoCons (oLoc 1) aoNil)) (gNm 3) [3] bYes (mOp2 dIx (oVal (mCst (.str "gb"))) (oVal (mCall 2 F_law_take (aCons (mVar 0) (aCons (mCst (.int 2)) aNil)))))))))))
def F_law_things : Fn := fnOf 4 ms_law_things
theorem b_law_things {P : Program} {w : World} {K : PySem.W.Frag} {mg : Str → Option Value} {base : Heap} (G_law_take : GFn P w K mg base "_law_take" 2 2 F_law_take) (hb_range : mg "range" = none) (X : Cx) (C : Vf.Ctx) (e1 : X.prog = P) (e2 : X.w = w) (e3 : X.mg = mg) (e4 : X.base = base) (e5 : X.K = K) (e6 : C.K = K) (e7 : X.N = N_law_things)
    (e8 : X.env.scope = defScope st_law_things) (e9 : X.fn = fun _ => true) (ok : Oks X C 2) : ESs X C (defBody st_law_things) ms_law_things := by
  obtain ⟨_, _, _, _, _, A, _, s0, H0, ⟨_, l, gl, cl, qu, fu, co, fr, bu⟩, ou, sk, ex, _, calm, pn, xe⟩ := X
  obtain ⟨_, wish⟩ := C
  dsimp only at e1 e2 e3 e4 e5 e6 e7 e8 e9
  subst e1 e2 e3 e4 e5 e6 e7 e8 e9
  have okc := ok.toOkc
  exact (ss_cons (s_set 2 okc.nd (e_call G_law_take okc (by decide) (a_cons (e_var 0) (a_cons e_int a_nil))))
    (ss_cons (s_if (b_cmp op_lt od_lt (o_loc 2) (o_val e_int)) (ss_one (s_ret (e_op op_mulAll od_mul (o_val (e_ix ix_seq od_ix (o_val e_str) (o_loc 2))) (o_loc 1)))) ss_nil)
    (ss_one (s_ret (e_join rfl e_str (o_val (e_new (n_lc okc.calm okc.nd [("k", 3)] (by rfl) (i_range1 hb_range (ao_cons (o_loc 1) ao_nil)) (fun s H c cl fp => (g_name 3 (okc.blk s H _ _ fp).nd)) (fun s H c cl fp => ts_nil) (fun s H c cl fp => (e_ix ix_seq od_ix (o_val e_str) (o_val (e_call G_law_take (okc.blk s H _ _ fp) (by decide) (a_cons (e_var 0) (a_cons e_int a_nil))))))))))))))
theorem g_law_things {P : Program} {w : World} {K : PySem.W.Frag} {mg : Str → Option Value} {base : Heap} {qu : Str} {f : Addr} {fd : FuncData} (G_law_take : GFn P w K mg base "_law_take" 2 2 F_law_take) (hb_range : mg "range" = none) (F : FunD K "_law_things" qu (defArgs st_law_things) (defBody st_law_things) (defScope st_law_things) [] [] f fd) (hm : mg "_law_things" = some (.ref f)) : GFn P w K mg base "_law_things" 2 3 F_law_things :=
  GFn.of (ps := ps_law_things) F sc_law_things hm (F.bindsN fun _ _ _ _ _ _ us hl => match us, hl with | [_, _], _ => rfl) (b_law_things G_law_take hb_range)
/-! law_plan_rows -/
def N_law_plan_rows : List Str := ["store", "many", "plain", "rows", "goods", "k", "row", "a"]
def ps_law_plan_rows : List Str := ["store", "many", "plain"]
abbrev st_law_plan_rows : Stmt := top 50
theorem sc_law_plan_rows : FnScope N_law_plan_rows ps_law_plan_rows (defScope st_law_plan_rows) := ⟨rfl, rfl, rfl, by decide +kernel, rfl, by decide +kernel, by decide +kernel⟩
def ms_law_plan_rows : MS := (sSeq (sSetN 3 (nLst aNil))
  (sSeq (sSet 4 (nLst (aCons (mCst (.int 0)) aNil)))
  (sSeq (sFor (iR1 (aoCons (oLoc 1) aoNil)) (gNm 5) (sSeq (sSet 6 (nLc (iSeq (mVar 4)) (gNm 7) [7] (bOr (bTru (oLoc 2)) (bOf (mOp2 dGt (oVal (mCall 2 F_law_take (aCons (mVar 0) (aCons (mCst (.int 4)) aNil)))) (oVal (mCst (.int 0)))))) (mVar 7)))
  (sSeq (sSet 6 (mOp2 dAdd (oVal (mSl (oLoc 6) (pSome (mOp2 dMul (oVal (mB fInt (aoCons (oVal (mOp2 dGt (oVal (mB fLen (aoCons (oLoc 6) aoNil))) (oVal (mCst (.int 1))))) aoNil))) (oVal (mCall 2 F_law_take (aCons (mVar 0) (aCons (mCst (.int 2)) aNil)))))) pNone)) (oVal (mOp2 dMul (oVal (mSl (oLoc 4) (pSome (mNeg (mCst (.int 1)))) pNone)) (oVal (mB fInt (aoCons (oVal (mOp2 dEq (oVal (mB fLen (aoCons (oLoc 6) aoNil))) (oVal (mCst (.int 0))))) aoNil)))))))
  (sSeq (sExpr (mMut fApp (oLoc 3) (aCons (mVar 6) aNil)))
  (sSet 4 (nLc (iR1 (aoCons (oVal (mOp2 dAdd (oLoc 5) (oVal (mCst (.int 2))))) aoNil)) (gNm 7) [7] (bOr (bOf (mOp2 dIn (oLoc 7) (oLoc 6))) (bOf (mOp2 dIn (oVal (mOp2 iSub (oLoc 7) (oVal (mCst (.int 1))))) (oLoc 6)))) (mVar 7)))))))
  (sRetL 3))))
def F_law_plan_rows : Fn := fnOf 8 ms_law_plan_rows
theorem b_law_plan_rows {P : Program} {w : World} {K : PySem.W.Frag} {mg : Str → Option Value} {base : Heap} (hb_range : mg "range" = none) (G_law_take : GFn P w K mg base "_law_take" 2 2 F_law_take) (hb_len : mg "len" = none) (hb_int : mg "int" = none) (X : Cx) (C : Vf.Ctx) (e1 : X.prog = P) (e2 : X.w = w) (e3 : X.mg = mg) (e4 : X.base = base) (e5 : X.K = K) (e6 : C.K = K) (e7 : X.N = N_law_plan_rows)
    (e8 : X.env.scope = defScope st_law_plan_rows) (e9 : X.fn = fun _ => true) (ok : Oks X C 2) : ESs X C (defBody st_law_plan_rows) ms_law_plan_rows := by
  obtain ⟨_, _, _, _, _, A, _, s0, H0, ⟨_, l, gl, cl, qu, fu, co, fr, bu⟩, ou, sk, ex, _, calm, pn, xe⟩ := X
  obtain ⟨_, wish⟩ := C
  dsimp only at e1 e2 e3 e4 e5 e6 e7 e8 e9
  subst e1 e2 e3 e4 e5 e6 e7 e8 e9
  have okc := ok.toOkc
  exact (ss_cons (s_setN 3 okc.nd (n_lst a_nil))
    (ss_cons (s_set 4 okc.nd (e_new (n_lst (a_cons e_int a_nil))))
    (ss_cons (s_for okc.calm ok.po (i_range1 hb_range (ao_cons (o_loc 1) ao_nil)) (g_name 5 okc.nd) (ss_cons (s_set 6 okc.nd (e_new (n_lc okc.calm okc.nd [("a", 7)] (by rfl) (i_seq (e_var 4)) (fun s H c cl fp => (g_name 7 (okc.blk s H _ _ fp).nd)) (fun s H c cl fp => (ts_one (b_w (w_or (b_tru (o_loc 2)) (w_or1 (b_cmp op_gt od_gt (o_val (e_call G_law_take (okc.blk s H _ _ fp) (by decide) (a_cons (e_var 0) (a_cons e_int a_nil)))) (o_val e_int))))))) (fun s H c cl fp => (e_var 7)))))
    (ss_cons (s_set 6 okc.nd (e_op op_addAll od_add (o_val (e_sl rfl (o_loc 6) (p_some (e_op op_mulAll od_mul (o_val (e_callTy call_int1 cd_int hb_int rfl (ao_cons (o_val (e_cmp op_gt od_gt (o_val (e_callB (call_len.or call_lenD) cd_len hb_len rfl (ao_cons (o_loc 6) ao_nil))) (o_val e_int))) ao_nil))) (o_val (e_call G_law_take okc (by decide) (a_cons (e_var 0) (a_cons e_int a_nil)))))) p_none)) (o_val (e_op op_mulAll od_mul (o_val (e_sl rfl (o_loc 4) (p_some (e_neg e_int)) p_none)) (o_val (e_callTy call_int1 cd_int hb_int rfl (ao_cons (o_val (e_cmp (op_eqA okc.room.units) od_eq (o_val (e_callB (call_len.or call_lenD) cd_len hb_len rfl (ao_cons (o_loc 6) ao_nil))) (o_val e_int))) ao_nil)))))))
    (ss_cons (s_expr (e_append rfl (o_loc 3) (a_cons (e_var 6) a_nil)))
    (ss_one (s_setLc 4 okc.calm okc.nd [("a", 7)] (by rfl) rfl (i_range1 hb_range (ao_cons (o_val (e_op op_addAll od_add (o_loc 5) (o_val e_int))) ao_nil)) (fun s H c cl fp => (g_name 7 (okc.blk s H _ _ fp).nd)) (fun s H c cl fp => (ts_one (b_w (w_or (b_cmp op_in_seq od_in (o_loc 7) (o_loc 6)) (w_or1 (b_cmp op_in_seq od_in (o_val (e_op op_sub od_iSub (o_loc 7) (o_val e_int))) (o_loc 6))))))) (fun s H c cl fp => (e_var 7))))))))
    (ss_one (s_retL 3)))))
theorem g_law_plan_rows {P : Program} {w : World} {K : PySem.W.Frag} {mg : Str → Option Value} {base : Heap} {qu : Str} {f : Addr} {fd : FuncData} (hb_range : mg "range" = none) (G_law_take : GFn P w K mg base "_law_take" 2 2 F_law_take) (hb_len : mg "len" = none) (hb_int : mg "int" = none) (F : FunD K "_law_plan_rows" qu (defArgs st_law_plan_rows) (defBody st_law_plan_rows) (defScope st_law_plan_rows) [] [] f fd) (hm : mg "_law_plan_rows" = some (.ref f)) : GFn P w K mg base "_law_plan_rows" 3 3 F_law_plan_rows :=
  GFn.of (ps := ps_law_plan_rows) F sc_law_plan_rows hm (F.bindsN fun _ _ _ _ _ _ us hl => match us, hl with | [_, _, _], _ => rfl) (b_law_plan_rows hb_range G_law_take hb_len hb_int)
/-! law_at_stop -/
def N_law_at_stop : List Str := ["rows", "course"]
def ps_law_at_stop : List Str := ["rows", "course"]
abbrev st_law_at_stop : Stmt := top 52
theorem sc_law_at_stop : FnScope N_law_at_stop ps_law_at_stop (defScope st_law_at_stop) := ⟨rfl, rfl, rfl, by decide +kernel, rfl, by decide +kernel, by decide +kernel⟩
def ms_law_at_stop : MS := (sRet (vOr (mOp2 dGe (oVal (mB fLen (aoCons (oLoc 1) aoNil))) (oVal (mB fLen (aoCons (oLoc 0) aoNil)))) (mOp2 dNin (oVal (mTx fCount (mVar 1) (oVal (mCst (.str "g"))))) (oVal (mOp2 dIx (oLoc 0) (oVal (mB fLen (aoCons (oLoc 1) aoNil))))))))
def F_law_at_stop : Fn := fnOf 2 ms_law_at_stop
theorem b_law_at_stop {P : Program} {w : World} {K : PySem.W.Frag} {mg : Str → Option Value} {base : Heap} (hb_len : mg "len" = none) (X : Cx) (C : Vf.Ctx) (e1 : X.prog = P) (e2 : X.w = w) (e3 : X.mg = mg) (e4 : X.base = base) (e5 : X.K = K) (e6 : C.K = K) (e7 : X.N = N_law_at_stop)
    (e8 : X.env.scope = defScope st_law_at_stop) (e9 : X.fn = fun _ => true) (ok : Oks X C 0) : ESs X C (defBody st_law_at_stop) ms_law_at_stop := by
  obtain ⟨_, _, _, _, _, A, _, s0, H0, ⟨_, l, gl, cl, qu, fu, co, fr, bu⟩, ou, sk, ex, _, calm, pn, xe⟩ := X
  obtain ⟨_, wish⟩ := C
  dsimp only at e1 e2 e3 e4 e5 e6 e7 e8 e9
  subst e1 e2 e3 e4 e5 e6 e7 e8 e9
  have okc := ok.toOkc
  exact (ss_one (s_ret (v_or (e_cmp op_ge od_ge (o_val (e_callB (call_len.or call_lenD) cd_len hb_len rfl (ao_cons (o_loc 1) ao_nil))) (o_val (e_callB (call_len.or call_lenD) cd_len hb_len rfl (ao_cons (o_loc 0) ao_nil)))) (v_one (e_cmp op_notIn_seq od_nin (o_val (e_count (e_var 1) (o_val e_str))) (o_val (e_ix ix_seq od_ix (o_loc 0) (o_val (e_callB (call_len.or call_lenD) cd_len hb_len rfl (ao_cons (o_loc 1) ao_nil))))))))))
theorem g_law_at_stop {P : Program} {w : World} {K : PySem.W.Frag} {mg : Str → Option Value} {base : Heap} {qu : Str} {f : Addr} {fd : FuncData} (hb_len : mg "len" = none) (F : FunD K "_law_at_stop" qu (defArgs st_law_at_stop) (defBody st_law_at_stop) (defScope st_law_at_stop) [] [] f fd) (hm : mg "_law_at_stop" = some (.ref f)) : GFn P w K mg base "_law_at_stop" 2 1 F_law_at_stop :=
  GFn.of (ps := ps_law_at_stop) F sc_law_at_stop hm (F.bindsN fun _ _ _ _ _ _ us hl => match us, hl with | [_, _], _ => rfl) (b_law_at_stop hb_len)
/-! law_in_a_row -/
def N_law_in_a_row : List Str := ["plans", "row", "out", "at", "rows", "course", "k"]
def ps_law_in_a_row : List Str := ["plans", "row"]
abbrev st_law_in_a_row : Stmt := top 53
theorem sc_law_in_a_row : FnScope N_law_in_a_row ps_law_in_a_row (defScope st_law_in_a_row) := ⟨rfl, rfl, rfl, by decide +kernel, rfl, by decide +kernel, by decide +kernel⟩
def ms_law_in_a_row : MS := (sSeq (sSetN 2 (nLst aNil))
  (sSeq (sSet 3 (mCst (.int 0)))
  (sSeq (sFor (iSeq (mVar 0)) (gNm 4) (sSeq (sSet 5 (mCst (.str "")))
  (sSeq (sFor (iR1 (aoCons (oVal (mB fLen (aoCons (oLoc 4) aoNil))) aoNil)) (gNm 6) (sIf (bNot (bTru (oVal (mCall 2 F_law_at_stop (aCons (mVar 4) (aCons (mVar 5) aNil)))))) (sSeq (sSet 5 (mOp2 dAdd (oLoc 5) (oVal (mOp2 dIx (oLoc 1) (oLoc 3)))))
  (sSet 3 (mOp2 dAdd (oLoc 3) (oVal (mCst (.int 1)))))) sNext))
  (sExpr (mMut fApp (oLoc 2) (aCons (mVar 5) aNil))))))
  (sRetL 2))))
def F_law_in_a_row : Fn := fnOf 7 ms_law_in_a_row
theorem b_law_in_a_row {P : Program} {w : World} {K : PySem.W.Frag} {mg : Str → Option Value} {base : Heap} (hb_len : mg "len" = none) (hb_range : mg "range" = none) (G_law_at_stop : GFn P w K mg base "_law_at_stop" 2 1 F_law_at_stop) (X : Cx) (C : Vf.Ctx) (e1 : X.prog = P) (e2 : X.w = w) (e3 : X.mg = mg) (e4 : X.base = base) (e5 : X.K = K) (e6 : C.K = K) (e7 : X.N = N_law_in_a_row)
    (e8 : X.env.scope = defScope st_law_in_a_row) (e9 : X.fn = fun _ => true) (ok : Oks X C 1) : ESs X C (defBody st_law_in_a_row) ms_law_in_a_row := by
  obtain ⟨_, _, _, _, _, A, _, s0, H0, ⟨_, l, gl, cl, qu, fu, co, fr, bu⟩, ou, sk, ex, _, calm, pn, xe⟩ := X
  obtain ⟨_, wish⟩ := C
  dsimp only at e1 e2 e3 e4 e5 e6 e7 e8 e9
  subst e1 e2 e3 e4 e5 e6 e7 e8 e9
  have okc := ok.toOkc
  exact (ss_cons (s_setN 2 okc.nd (n_lst a_nil))
    (ss_cons (s_set 3 okc.nd e_int)
    (ss_cons (s_for okc.calm ok.po (i_seq (e_var 0)) (g_name 4 okc.nd) (ss_cons (s_set 5 okc.nd e_str)
    (ss_cons (s_for okc.calm ok.po (i_range1 hb_range (ao_cons (o_val (e_callB (call_len.or call_lenD) cd_len hb_len rfl (ao_cons (o_loc 4) ao_nil))) ao_nil)) (g_name 6 okc.nd) (ss_one (s_if (b_not (b_tru (o_val (e_call G_law_at_stop okc (by decide) (a_cons (e_var 4) (a_cons (e_var 5) a_nil)))))) (ss_cons (s_set 5 okc.nd (e_op op_addAll od_add (o_loc 5) (o_val (e_ix ix_seq od_ix (o_loc 1) (o_loc 3)))))
    (ss_one (s_set 3 okc.nd (e_op op_addAll od_add (o_loc 3) (o_val e_int))))) ss_nil)))
    (ss_one (s_expr (e_append rfl (o_loc 2) (a_cons (e_var 5) a_nil)))))))
    (ss_one (s_retL 2)))))
theorem g_law_in_a_row {P : Program} {w : World} {K : PySem.W.Frag} {mg : Str → Option Value} {base : Heap} {qu : Str} {f : Addr} {fd : FuncData} (hb_len : mg "len" = none) (hb_range : mg "range" = none) (G_law_at_stop : GFn P w K mg base "_law_at_stop" 2 1 F_law_at_stop) (F : FunD K "_law_in_a_row" qu (defArgs st_law_in_a_row) (defBody st_law_in_a_row) (defScope st_law_in_a_row) [] [] f fd) (hm : mg "_law_in_a_row" = some (.ref f)) : GFn P w K mg base "_law_in_a_row" 2 2 F_law_in_a_row :=
  GFn.of (ps := ps_law_in_a_row) F sc_law_in_a_row hm (F.bindsN fun _ _ _ _ _ _ us hl => match us, hl with | [_, _], _ => rfl) (b_law_in_a_row hb_len hb_range G_law_at_stop)
/-! law_by_turns -/
def N_law_by_turns : List Str := ["plans", "row", "out", "at", "k", "i", "rows"]
def ps_law_by_turns : List Str := ["plans", "row"]
abbrev st_law_by_turns : Stmt := top 54
theorem sc_law_by_turns : FnScope N_law_by_turns ps_law_by_turns (defScope st_law_by_turns) := ⟨rfl, rfl, rfl, by decide +kernel, rfl, by decide +kernel, by decide +kernel⟩
def ms_law_by_turns : MS := (sSeq (sSetN 2 (nLc (iSeq (mVar 0)) (gNm 6) [6] bYes (mCst (.str ""))))
  (sSeq (sSet 3 (mCst (.int 0)))
  (sSeq (sFor (iR1 (aoCons (oVal (mB fMax (aoCons (oVal (nLc (iSeq (mVar 0)) (gNm 6) [6] bYes (mB fLen (aoCons (oLoc 6) aoNil)))) aoNil))) aoNil)) (gNm 4) (sFor (iR1 (aoCons (oVal (mB fLen (aoCons (oLoc 0) aoNil))) aoNil)) (gNm 5) (sIf (bNot (bTru (oVal (mCall 2 F_law_at_stop (aCons (mOp2 dIx (oLoc 0) (oLoc 5)) (aCons (mOp2 dIx (oLoc 2) (oLoc 5)) aNil)))))) (sSeq (sPut (oLoc 2) (mVar 5) (mOp2 dAdd (oVal (mOp2 dIx (oLoc 2) (oLoc 5))) (oVal (mOp2 dIx (oLoc 1) (oLoc 3)))))
  (sSet 3 (mOp2 dAdd (oLoc 3) (oVal (mCst (.int 1)))))) sNext)))
  (sRetL 2))))
def F_law_by_turns : Fn := fnOf 7 ms_law_by_turns
theorem b_law_by_turns {P : Program} {w : World} {K : PySem.W.Frag} {mg : Str → Option Value} {base : Heap} (hb_len : mg "len" = none) (hb_max : mg "max" = none) (hb_range : mg "range" = none) (G_law_at_stop : GFn P w K mg base "_law_at_stop" 2 1 F_law_at_stop) (X : Cx) (C : Vf.Ctx) (e1 : X.prog = P) (e2 : X.w = w) (e3 : X.mg = mg) (e4 : X.base = base) (e5 : X.K = K) (e6 : C.K = K) (e7 : X.N = N_law_by_turns)
    (e8 : X.env.scope = defScope st_law_by_turns) (e9 : X.fn = fun _ => true) (ok : Oks X C 1) : ESs X C (defBody st_law_by_turns) ms_law_by_turns := by
  obtain ⟨_, _, _, _, _, A, _, s0, H0, ⟨_, l, gl, cl, qu, fu, co, fr, bu⟩, ou, sk, ex, _, calm, pn, xe⟩ := X
  obtain ⟨_, wish⟩ := C
  dsimp only at e1 e2 e3 e4 e5 e6 e7 e8 e9
  subst e1 e2 e3 e4 e5 e6 e7 e8 e9
  have okc := ok.toOkc
  exact (ss_cons (s_setLcN 2 okc.calm okc.nd [("rows", 6)] (by rfl) rfl (i_seq (e_var 0)) (fun s H c cl fp => (g_name 6 (okc.blk s H _ _ fp).nd)) (fun s H c cl fp => ts_nil) (fun s H c cl fp => e_str))
    (ss_cons (s_set 3 okc.nd e_int)
    (ss_cons (s_for okc.calm ok.po (i_range1 hb_range (ao_cons (o_val (e_callB (cr_max okc.calm) cd_max hb_max rfl (ao_cons (o_val (e_new (n_lc okc.calm okc.nd [("rows", 6)] (by rfl) (i_seq (e_var 0)) (fun s H c cl fp => (g_name 6 (okc.blk s H _ _ fp).nd)) (fun s H c cl fp => ts_nil) (fun s H c cl fp => (e_callB (call_len.or call_lenD) cd_len hb_len rfl (ao_cons (o_loc 6) ao_nil)))))) ao_nil))) ao_nil)) (g_name 4 okc.nd) (ss_one (s_for okc.calm ok.po (i_range1 hb_range (ao_cons (o_val (e_callB (call_len.or call_lenD) cd_len hb_len rfl (ao_cons (o_loc 0) ao_nil))) ao_nil)) (g_name 5 okc.nd) (ss_one (s_if (b_not (b_tru (o_val (e_call G_law_at_stop okc (by decide) (a_cons (e_ix ix_seq od_ix (o_loc 0) (o_loc 5)) (a_cons (e_ix ix_seq od_ix (o_loc 2) (o_loc 5)) a_nil)))))) (ss_cons (s_put okc (o_loc 2) (e_var 5) (e_op op_addAll od_add (o_val (e_ix ix_seq od_ix (o_loc 2) (o_loc 5))) (o_val (e_ix ix_seq od_ix (o_loc 1) (o_loc 3)))))
    (ss_one (s_set 3 okc.nd (e_op op_addAll od_add (o_loc 3) (o_val e_int))))) ss_nil)))))
    (ss_one (s_retL 2)))))
theorem g_law_by_turns {P : Program} {w : World} {K : PySem.W.Frag} {mg : Str → Option Value} {base : Heap} {qu : Str} {f : Addr} {fd : FuncData} (hb_len : mg "len" = none) (hb_max : mg "max" = none) (hb_range : mg "range" = none) (G_law_at_stop : GFn P w K mg base "_law_at_stop" 2 1 F_law_at_stop) (F : FunD K "_law_by_turns" qu (defArgs st_law_by_turns) (defBody st_law_by_turns) (defScope st_law_by_turns) [] [] f fd) (hm : mg "_law_by_turns" = some (.ref f)) : GFn P w K mg base "_law_by_turns" 2 2 F_law_by_turns :=
  GFn.of (ps := ps_law_by_turns) F sc_law_by_turns hm (F.bindsN fun _ _ _ _ _ _ us hl => match us, hl with | [_, _], _ => rfl) (b_law_by_turns hb_len hb_max hb_range G_law_at_stop)
/-! law_dealt -/
def N_law_dealt : List Str := ["courses", "row", "seen", "k", "course"]
def ps_law_dealt : List Str := ["courses", "row"]
abbrev st_law_dealt : Stmt := top 55
theorem sc_law_dealt : FnScope N_law_dealt ps_law_dealt (defScope st_law_dealt) := ⟨rfl, rfl, rfl, by decide +kernel, rfl, by decide +kernel, by decide +kernel⟩
def ms_law_dealt : MS := (sSeq (sSet 2 (mCst (.str "")))
  (sSeq (sFor (iR1 (aoCons (oVal (mB fMax (aoCons (oVal (nLc (iSeq (mVar 0)) (gNm 4) [4] bYes (mB fLen (aoCons (oLoc 4) aoNil)))) aoNil))) aoNil)) (gNm 3) (sFor (iSeq (mVar 0)) (gNm 4) (sSet 2 (mOp2 dAdd (oLoc 2) (oVal (mSl (oLoc 4) (pSome (mVar 3)) (pSome (mOp2 dAdd (oLoc 3) (oVal (mCst (.int 1)))))))))))
  (sRet (mTx fStarts (mVar 1) (oLoc 2)))))
def F_law_dealt : Fn := fnOf 5 ms_law_dealt
theorem b_law_dealt {P : Program} {w : World} {K : PySem.W.Frag} {mg : Str → Option Value} {base : Heap} (hb_len : mg "len" = none) (hb_max : mg "max" = none) (hb_range : mg "range" = none) (X : Cx) (C : Vf.Ctx) (e1 : X.prog = P) (e2 : X.w = w) (e3 : X.mg = mg) (e4 : X.base = base) (e5 : X.K = K) (e6 : C.K = K) (e7 : X.N = N_law_dealt)
    (e8 : X.env.scope = defScope st_law_dealt) (e9 : X.fn = fun _ => true) (ok : Oks X C 0) : ESs X C (defBody st_law_dealt) ms_law_dealt := by
  obtain ⟨_, _, _, _, _, A, _, s0, H0, ⟨_, l, gl, cl, qu, fu, co, fr, bu⟩, ou, sk, ex, _, calm, pn, xe⟩ := X
  obtain ⟨_, wish⟩ := C
  dsimp only at e1 e2 e3 e4 e5 e6 e7 e8 e9
  subst e1 e2 e3 e4 e5 e6 e7 e8 e9
  have okc := ok.toOkc
  exact (ss_cons (s_set 2 okc.nd e_str)
    (ss_cons (s_for okc.calm ok.po (i_range1 hb_range (ao_cons (o_val (e_callB (cr_max okc.calm) cd_max hb_max rfl (ao_cons (o_val (e_new (n_lc okc.calm okc.nd [("course", 4)] (by rfl) (i_seq (e_var 0)) (fun s H c cl fp => (g_name 4 (okc.blk s H _ _ fp).nd)) (fun s H c cl fp => ts_nil) (fun s H c cl fp => (e_callB (call_len.or call_lenD) cd_len hb_len rfl (ao_cons (o_loc 4) ao_nil)))))) ao_nil))) ao_nil)) (g_name 3 okc.nd) (ss_one (s_for okc.calm ok.po (i_seq (e_var 0)) (g_name 4 okc.nd) (ss_one (s_set 2 okc.nd (e_op op_addAll od_add (o_loc 2) (o_val (e_sl rfl (o_loc 4) (p_some (e_var 3)) (p_some (e_op op_addAll od_add (o_loc 3) (o_val e_int)))))))))))
    (ss_one (s_ret (e_starts (e_var 1) (o_loc 2))))))
theorem g_law_dealt {P : Program} {w : World} {K : PySem.W.Frag} {mg : Str → Option Value} {base : Heap} {qu : Str} {f : Addr} {fd : FuncData} (hb_len : mg "len" = none) (hb_max : mg "max" = none) (hb_range : mg "range" = none) (F : FunD K "_law_dealt" qu (defArgs st_law_dealt) (defBody st_law_dealt) (defScope st_law_dealt) [] [] f fd) (hm : mg "_law_dealt" = some (.ref f)) : GFn P w K mg base "_law_dealt" 2 1 F_law_dealt :=
  GFn.of (ps := ps_law_dealt) F sc_law_dealt hm (F.bindsN fun _ _ _ _ _ _ us hl => match us, hl with | [_, _], _ => rfl) (b_law_dealt hb_len hb_max hb_range)
/-! stepped -/
def N_stepped : List Str := ["place", "sign", "a", "b"]
def ps_stepped : List Str := ["place", "sign"]
abbrev st_stepped : Stmt := top 29
theorem sc_stepped : FnScope N_stepped ps_stepped (defScope st_stepped) := ⟨rfl, rfl, rfl, by decide +kernel, rfl, by decide +kernel, by decide +kernel⟩
def ms_stepped : MS := (sSeq (sAsg (mVar 0) (gTp 2 (gsCons (gNm 2) (gsCons (gNm 3) gsNil))))
  (sSeq (sIf (bOf (mOp2 dEq (oLoc 1) (oVal (mCst (.str "g"))))) (sRet (mTup (aCons (mOp2 dAdd (oLoc 2) (oVal (mCst (.int 1)))) (aCons (mVar 3) aNil)))) sNext)
  (sRet (mTup (aCons (mVar 2) (aCons (mOp2 dAdd (oLoc 3) (oVal (mCst (.int 1)))) aNil))))))
def F_stepped : Fn := fnOf 4 ms_stepped
theorem b_stepped {P : Program} {w : World} {K : PySem.W.Frag} {mg : Str → Option Value} {base : Heap}  (X : Cx) (C : Vf.Ctx) (e1 : X.prog = P) (e2 : X.w = w) (e3 : X.mg = mg) (e4 : X.base = base) (e5 : X.K = K) (e6 : C.K = K) (e7 : X.N = N_stepped)
    (e8 : X.env.scope = defScope st_stepped) (e9 : X.fn = fun _ => true) (ok : Oks X C 0) : ESs X C (defBody st_stepped) ms_stepped := by
  obtain ⟨_, _, _, _, _, A, _, s0, H0, ⟨_, l, gl, cl, qu, fu, co, fr, bu⟩, ou, sk, ex, _, calm, pn, xe⟩ := X
  obtain ⟨_, wish⟩ := C
  dsimp only at e1 e2 e3 e4 e5 e6 e7 e8 e9
  subst e1 e2 e3 e4 e5 e6 e7 e8 e9
  have okc := ok.toOkc
  exact (ss_cons (s_asg (e_var 0) (g_tup okc.calm (gs_cons (g_name 2 okc.nd) (gs_cons (g_name 3 okc.nd) gs_nil))))
    (ss_cons (s_if (b_cmp (op_eqA okc.room.units) od_eq (o_loc 1) (o_val e_str)) (ss_one (s_ret (e_tup (a_cons (e_op op_addAll od_add (o_loc 2) (o_val e_int)) (a_cons (e_var 3) a_nil))))) ss_nil)
    (ss_one (s_ret (e_tup (a_cons (e_var 2) (a_cons (e_op op_addAll od_add (o_loc 3) (o_val e_int)) a_nil)))))))
theorem g_stepped {P : Program} {w : World} {K : PySem.W.Frag} {mg : Str → Option Value} {base : Heap} {qu : Str} {f : Addr} {fd : FuncData}  (F : FunD K "stepped" qu (defArgs st_stepped) (defBody st_stepped) (defScope st_stepped) [] [] f fd) (hm : mg "stepped" = some (.ref f)) : GFn P w K mg base "stepped" 2 1 F_stepped :=
  GFn.of (ps := ps_stepped) F sc_stepped hm (F.bindsN fun _ _ _ _ _ _ us hl => match us, hl with | [_, _], _ => rfl) (b_stepped )
/-! next_goods -/
def N_next_goods : List Str := ["row", "out", "a"]
def ps_next_goods : List Str := ["row"]
abbrev st_next_goods : Stmt := top 35
theorem sc_next_goods : FnScope N_next_goods ps_next_goods (defScope st_next_goods) := ⟨rfl, rfl, rfl, by decide +kernel, rfl, by decide +kernel, by decide +kernel⟩
def ms_next_goods : MS := (sSeq (sSetN 1 (nLst aNil))
  (sSeq (sFor (iSeq (mVar 0)) (gNm 2) (sSeq (sIf (bOr (bNot (bTru (oLoc 1))) (bOf (mOp2 dNe (oVal (mOp2 dIx (oLoc 1) (oVal (mNeg (mCst (.int 1)))))) (oLoc 2)))) (sExpr (mMut fApp (oLoc 1) (aCons (mVar 2) aNil))) sNext)
  (sExpr (mMut fApp (oLoc 1) (aCons (mOp2 dAdd (oLoc 2) (oVal (mCst (.int 1)))) aNil)))))
  (sRet (mB fTuple (aoCons (oLoc 1) aoNil)))))
def F_next_goods : Fn := fnOf 3 ms_next_goods
theorem b_next_goods {P : Program} {w : World} {K : PySem.W.Frag} {mg : Str → Option Value} {base : Heap} (hb_tuple : mg "tuple" = none) (X : Cx) (C : Vf.Ctx) (e1 : X.prog = P) (e2 : X.w = w) (e3 : X.mg = mg) (e4 : X.base = base) (e5 : X.K = K) (e6 : C.K = K) (e7 : X.N = N_next_goods)
    (e8 : X.env.scope = defScope st_next_goods) (e9 : X.fn = fun _ => true) (ok : Oks X C 0) : ESs X C (defBody st_next_goods) ms_next_goods := by
  obtain ⟨_, _, _, _, _, A, _, s0, H0, ⟨_, l, gl, cl, qu, fu, co, fr, bu⟩, ou, sk, ex, _, calm, pn, xe⟩ := X
  obtain ⟨_, wish⟩ := C
  dsimp only at e1 e2 e3 e4 e5 e6 e7 e8 e9
  subst e1 e2 e3 e4 e5 e6 e7 e8 e9
  have okc := ok.toOkc
  exact (ss_cons (s_setN 1 okc.nd (n_lst a_nil))
    (ss_cons (s_for okc.calm ok.po (i_seq (e_var 0)) (g_name 2 okc.nd) (ss_cons (s_if (b_w (w_or (b_not (b_tru (o_loc 1))) (w_or1 (b_cmp (op_neA okc.room.units) od_ne (o_val (e_ix ix_seq od_ix (o_loc 1) (o_val (e_neg e_int)))) (o_loc 2))))) (ss_one (s_expr (e_append rfl (o_loc 1) (a_cons (e_var 2) a_nil)))) ss_nil)
    (ss_one (s_expr (e_append rfl (o_loc 1) (a_cons (e_op op_addAll od_add (o_loc 2) (o_val e_int)) a_nil))))))
    (ss_one (s_ret (e_callTy call_tuple_of cd_tuple hb_tuple rfl (ao_cons (o_loc 1) ao_nil))))))
theorem g_next_goods {P : Program} {w : World} {K : PySem.W.Frag} {mg : Str → Option Value} {base : Heap} {qu : Str} {f : Addr} {fd : FuncData} (hb_tuple : mg "tuple" = none) (F : FunD K "next_goods" qu (defArgs st_next_goods) (defBody st_next_goods) (defScope st_next_goods) [] [] f fd) (hm : mg "next_goods" = some (.ref f)) : GFn P w K mg base "next_goods" 1 1 F_next_goods :=
  GFn.of (ps := ps_next_goods) F sc_next_goods hm (F.bindsN fun _ _ _ _ _ _ us hl => match us, hl with | [_], _ => rfl) (b_next_goods hb_tuple)
/-! good_row -/
def N_good_row : List Str := ["row", "goods", "k", "a"]
def ps_good_row : List Str := ["row", "goods"]
abbrev st_good_row : Stmt := top 36
theorem sc_good_row : FnScope N_good_row ps_good_row (defScope st_good_row) := ⟨rfl, rfl, rfl, by decide +kernel, rfl, by decide +kernel, by decide +kernel⟩
def ms_good_row : MS := (sSeq (sIf (bNot (bTru (oLoc 0))) (sRet (mCst (.bl false))) sNext)
  (sSeq (sFor (iEnumM (aCons (mVar 0) aNil)) (gTp 2 (gsCons (gNm 2) (gsCons (gNm 3) gsNil))) (sSeq (sIf (bOf (mOp2 dNin (oLoc 3) (oLoc 1))) (sRet (mCst (.bl false))) sNext)
  (sIf (bAnd (bOf (mOp2 dGt (oLoc 2) (oVal (mCst (.int 0))))) (bOf (mOp2 dGe (oVal (mOp2 dIx (oLoc 0) (oVal (mOp2 iSub (oLoc 2) (oVal (mCst (.int 1))))))) (oLoc 3)))) (sRet (mCst (.bl false))) sNext)))
  (sRet (mCst (.bl true)))))
def F_good_row : Fn := fnOf 4 ms_good_row
theorem b_good_row {P : Program} {w : World} {K : PySem.W.Frag} {mg : Str → Option Value} {base : Heap} (hb_enumerate : mg "enumerate" = none) (X : Cx) (C : Vf.Ctx) (e1 : X.prog = P) (e2 : X.w = w) (e3 : X.mg = mg) (e4 : X.base = base) (e5 : X.K = K) (e6 : C.K = K) (e7 : X.N = N_good_row)
    (e8 : X.env.scope = defScope st_good_row) (e9 : X.fn = fun _ => true) (ok : Oks X C 0) : ESs X C (defBody st_good_row) ms_good_row := by
  obtain ⟨_, _, _, _, _, A, _, s0, H0, ⟨_, l, gl, cl, qu, fu, co, fr, bu⟩, ou, sk, ex, _, calm, pn, xe⟩ := X
  obtain ⟨_, wish⟩ := C
  dsimp only at e1 e2 e3 e4 e5 e6 e7 e8 e9
  subst e1 e2 e3 e4 e5 e6 e7 e8 e9
  have okc := ok.toOkc
  exact (ss_cons (s_if (b_not (b_tru (o_loc 0))) (ss_one (s_ret e_bl)) ss_nil)
    (ss_cons (s_for okc.calm ok.po (i_enum hb_enumerate (a_cons (e_var 0) a_nil)) (g_tup okc.calm (gs_cons (g_name 2 okc.nd) (gs_cons (g_name 3 okc.nd) gs_nil))) (ss_cons (s_if (b_cmp op_notIn_seq od_nin (o_loc 3) (o_loc 1)) (ss_one (s_ret e_bl)) ss_nil)
    (ss_one (s_if (b_w (w_and (b_cmp op_gt od_gt (o_loc 2) (o_val e_int)) (w_and1 (b_cmp op_ge od_ge (o_val (e_ix ix_seq od_ix (o_loc 0) (o_val (e_op op_sub od_iSub (o_loc 2) (o_val e_int))))) (o_loc 3))))) (ss_one (s_ret e_bl)) ss_nil))))
    (ss_one (s_ret e_bl))))
theorem g_good_row {P : Program} {w : World} {K : PySem.W.Frag} {mg : Str → Option Value} {base : Heap} {qu : Str} {f : Addr} {fd : FuncData} (hb_enumerate : mg "enumerate" = none) (F : FunD K "good_row" qu (defArgs st_good_row) (defBody st_good_row) (defScope st_good_row) [] [] f fd) (hm : mg "good_row" = some (.ref f)) : GFn P w K mg base "good_row" 2 1 F_good_row :=
  GFn.of (ps := ps_good_row) F sc_good_row hm (F.bindsN fun _ _ _ _ _ _ us hl => match us, hl with | [_, _], _ => rfl) (b_good_row hb_enumerate)
/-! row_at -/
def N_row_at : List Str := ["rows", "n"]
def ps_row_at : List Str := ["rows", "n"]
abbrev st_row_at : Stmt := top 37
theorem sc_row_at : FnScope N_row_at ps_row_at (defScope st_row_at) := ⟨rfl, rfl, rfl, by decide +kernel, rfl, by decide +kernel, by decide +kernel⟩
def ms_row_at : MS := (sRet (mIte (bOf (mOp2 dLt (oLoc 1) (oVal (mB fLen (aoCons (oLoc 0) aoNil))))) (mOp2 dIx (oLoc 0) (oLoc 1)) (mTup aNil)))
def F_row_at : Fn := fnOf 2 ms_row_at
theorem b_row_at {P : Program} {w : World} {K : PySem.W.Frag} {mg : Str → Option Value} {base : Heap} (hb_len : mg "len" = none) (X : Cx) (C : Vf.Ctx) (e1 : X.prog = P) (e2 : X.w = w) (e3 : X.mg = mg) (e4 : X.base = base) (e5 : X.K = K) (e6 : C.K = K) (e7 : X.N = N_row_at)
    (e8 : X.env.scope = defScope st_row_at) (e9 : X.fn = fun _ => true) (ok : Oks X C 0) : ESs X C (defBody st_row_at) ms_row_at := by
  obtain ⟨_, _, _, _, _, A, _, s0, H0, ⟨_, l, gl, cl, qu, fu, co, fr, bu⟩, ou, sk, ex, _, calm, pn, xe⟩ := X
  obtain ⟨_, wish⟩ := C
  dsimp only at e1 e2 e3 e4 e5 e6 e7 e8 e9
  subst e1 e2 e3 e4 e5 e6 e7 e8 e9
  have okc := ok.toOkc
  exact (ss_one (s_ret (e_ite (b_cmp op_lt od_lt (o_loc 1) (o_val (e_callB (call_len.or call_lenD) cd_len hb_len rfl (ao_cons (o_loc 0) ao_nil)))) (e_ix ix_seq od_ix (o_loc 0) (o_loc 1)) (e_tup a_nil))))
theorem g_row_at {P : Program} {w : World} {K : PySem.W.Frag} {mg : Str → Option Value} {base : Heap} {qu : Str} {f : Addr} {fd : FuncData} (hb_len : mg "len" = none) (F : FunD K "row_at" qu (defArgs st_row_at) (defBody st_row_at) (defScope st_row_at) [] [] f fd) (hm : mg "row_at" = some (.ref f)) : GFn P w K mg base "row_at" 2 1 F_row_at :=
  GFn.of (ps := ps_row_at) F sc_row_at hm (F.bindsN fun _ _ _ _ _ _ us hl => match us, hl with | [_, _], _ => rfl) (b_row_at hb_len)
/-! Plan_longest -/
def N_Plan_longest : List Str := ["self"]
def ps_Plan_longest : List Str := ["self"]
abbrev st_Plan_longest : Stmt := meth 40 1
theorem sc_Plan_longest : FnScope N_Plan_longest ps_Plan_longest (defScope st_Plan_longest) := ⟨rfl, rfl, rfl, by decide +kernel, rfl, by decide +kernel, by decide +kernel⟩
def ms_Plan_longest : MS := (sRet (mB fLen (aoCons (oVal (mFld "go_rows" ["Plan"] (oLoc 0))) aoNil)))
def F_Plan_longest : Fn := fnOf 1 ms_Plan_longest
theorem b_Plan_longest {P : Program} {w : World} {K : PySem.W.Frag} {mg : Str → Option Value} {base : Heap} (gf_go_rows : GFd K "go_rows" ["Plan"]) (hb_len : mg "len" = none) (X : Cx) (C : Vf.Ctx) (e1 : X.prog = P) (e2 : X.w = w) (e3 : X.mg = mg) (e4 : X.base = base) (e5 : X.K = K) (e6 : C.K = K) (e7 : X.N = N_Plan_longest)
    (e8 : X.env.scope = defScope st_Plan_longest) (e9 : X.fn = fun _ => true) (ok : Oks X C 0) : ESs X C (defBody st_Plan_longest) ms_Plan_longest := by
  obtain ⟨_, _, _, _, _, A, _, s0, H0, ⟨_, l, gl, cl, qu, fu, co, fr, bu⟩, ou, sk, ex, _, calm, pn, xe⟩ := X
  obtain ⟨_, wish⟩ := C
  dsimp only at e1 e2 e3 e4 e5 e6 e7 e8 e9
  subst e1 e2 e3 e4 e5 e6 e7 e8 e9
  have okc := ok.toOkc
  exact (ss_one (s_ret (e_callB (call_len.or call_lenD) cd_len hb_len rfl (ao_cons (o_val (e_fld gf_go_rows rfl (o_loc 0))) ao_nil))))
theorem g_Plan_longest {P : Program} {w : World} {K : PySem.W.Frag} {mg : Str → Option Value} {base : Heap} {qu : Str} {f : Addr} {fd : FuncData} (gf_go_rows : GFd K "go_rows" ["Plan"]) (hb_len : mg "len" = none) (F : FunD K "longest" qu (defArgs st_Plan_longest) (defBody st_Plan_longest) (defScope st_Plan_longest) [] [] f fd) {pq : Addr} (hc : Cls K (He.ga K "Plan")) (hm : PropOf K (He.ga K "Plan") "longest" pq f) : GPr P w K mg base "Plan" "longest" 1 F_Plan_longest :=
  GPr.of (ps := ps_Plan_longest) F sc_Plan_longest rfl hc hm (F.bindsN fun _ _ _ _ _ _ us hl => match us, hl with | [_], _ => rfl) (b_Plan_longest gf_go_rows hb_len)
/-! Plan_rows -/
def N_Plan_rows : List Str := ["self", "row"]
def ps_Plan_rows : List Str := ["self"]
abbrev st_Plan_rows : Stmt := meth 40 4
theorem sc_Plan_rows : FnScope N_Plan_rows ps_Plan_rows (defScope st_Plan_rows) := ⟨rfl, rfl, rfl, by decide +kernel, rfl, by decide +kernel, by decide +kernel⟩
def ms_Plan_rows : MS := (sRetN (nLc (iSeq (mFld "go_rows" ["Plan"] (oLoc 0))) (gNm 1) [1] bYes (mB fList (aoCons (oLoc 1) aoNil))))
def F_Plan_rows : Fn := fnOf 2 ms_Plan_rows
theorem b_Plan_rows {P : Program} {w : World} {K : PySem.W.Frag} {mg : Str → Option Value} {base : Heap} (gf_go_rows : GFd K "go_rows" ["Plan"]) (hb_list : mg "list" = none) (X : Cx) (C : Vf.Ctx) (e1 : X.prog = P) (e2 : X.w = w) (e3 : X.mg = mg) (e4 : X.base = base) (e5 : X.K = K) (e6 : C.K = K) (e7 : X.N = N_Plan_rows)
    (e8 : X.env.scope = defScope st_Plan_rows) (e9 : X.fn = fun _ => true) (ok : Oks X C 0) : ESs X C (defBody st_Plan_rows) ms_Plan_rows := by
  obtain ⟨_, _, _, _, _, A, _, s0, H0, ⟨_, l, gl, cl, qu, fu, co, fr, bu⟩, ou, sk, ex, _, calm, pn, xe⟩ := X
  obtain ⟨_, wish⟩ := C
  dsimp only at e1 e2 e3 e4 e5 e6 e7 e8 e9
  subst e1 e2 e3 e4 e5 e6 e7 e8 e9
  have okc := ok.toOkc
  exact (ss_one (s_retN (n_lc okc.calm okc.nd [("row", 1)] (by rfl) (i_seq (e_fld gf_go_rows rfl (o_loc 0))) (fun s H c cl fp => (g_name 1 (okc.blk s H _ _ fp).nd)) (fun s H c cl fp => ts_nil) (fun s H c cl fp => (e_new (n_callTy call_list_of nd_list hb_list rfl (ao_cons (o_loc 1) ao_nil)))))))
theorem g_Plan_rows {P : Program} {w : World} {K : PySem.W.Frag} {mg : Str → Option Value} {base : Heap} {qu : Str} {f : Addr} {fd : FuncData} (gf_go_rows : GFd K "go_rows" ["Plan"]) (hb_list : mg "list" = none) (F : FunD K "rows" qu (defArgs st_Plan_rows) (defBody st_Plan_rows) (defScope st_Plan_rows) [] [] f fd) (hc : Cls K (He.ga K "Plan")) (hm : Meth K (He.ga K "Plan") "rows" f) : GMt P w K mg base "Plan" "rows" 1 1 F_Plan_rows :=
  GMt.of (ps := ps_Plan_rows) F sc_Plan_rows hc hm (F.bindsN fun _ _ _ _ _ _ us hl => match us, hl with | [_], _ => rfl) (b_Plan_rows gf_go_rows hb_list)
/-! Plan___contains__ -/
def N_Plan___contains__ : List Str := ["self", "place", "a", "b"]
def ps_Plan___contains__ : List Str := ["self", "place"]
abbrev st_Plan___contains__ : Stmt := meth 40 13
theorem sc_Plan___contains__ : FnScope N_Plan___contains__ ps_Plan___contains__ (defScope st_Plan___contains__) := ⟨rfl, rfl, rfl, by decide +kernel, rfl, by decide +kernel, by decide +kernel⟩
def ms_Plan___contains__ : MS := (sSeq (sAsg (mVar 1) (gTp 2 (gsCons (gNm 2) (gsCons (gNm 3) gsNil))))
  (sRet (mOp2 dIn (oLoc 2) (oVal (mCall 2 F_row_at (aCons (mFld "go_rows" ["Plan"] (oLoc 0)) (aCons (mOp2 dAdd (oLoc 2) (oLoc 3)) aNil)))))))
def F_Plan___contains__ : Fn := fnOf 4 ms_Plan___contains__
theorem b_Plan___contains__ {P : Program} {w : World} {K : PySem.W.Frag} {mg : Str → Option Value} {base : Heap} (gf_go_rows : GFd K "go_rows" ["Plan"]) (G_row_at : GFn P w K mg base "row_at" 2 1 F_row_at) (X : Cx) (C : Vf.Ctx) (e1 : X.prog = P) (e2 : X.w = w) (e3 : X.mg = mg) (e4 : X.base = base) (e5 : X.K = K) (e6 : C.K = K) (e7 : X.N = N_Plan___contains__)
    (e8 : X.env.scope = defScope st_Plan___contains__) (e9 : X.fn = fun _ => true) (ok : Oks X C 1) : ESs X C (defBody st_Plan___contains__) ms_Plan___contains__ := by
  obtain ⟨_, _, _, _, _, A, _, s0, H0, ⟨_, l, gl, cl, qu, fu, co, fr, bu⟩, ou, sk, ex, _, calm, pn, xe⟩ := X
  obtain ⟨_, wish⟩ := C
  dsimp only at e1 e2 e3 e4 e5 e6 e7 e8 e9
  subst e1 e2 e3 e4 e5 e6 e7 e8 e9
  have okc := ok.toOkc
  exact (ss_cons (s_asg (e_var 1) (g_tup okc.calm (gs_cons (g_name 2 okc.nd) (gs_cons (g_name 3 okc.nd) gs_nil))))
    (ss_one (s_ret (e_cmp op_in_seq od_in (o_loc 2) (o_val (e_call G_row_at okc (by decide) (a_cons (e_fld gf_go_rows rfl (o_loc 0)) (a_cons (e_op op_addAll od_add (o_loc 2) (o_loc 3)) a_nil))))))))
theorem g_Plan___contains__ {P : Program} {w : World} {K : PySem.W.Frag} {mg : Str → Option Value} {base : Heap} {qu : Str} {f : Addr} {fd : FuncData} (gf_go_rows : GFd K "go_rows" ["Plan"]) (G_row_at : GFn P w K mg base "row_at" 2 1 F_row_at) (F : FunD K "__contains__" qu (defArgs st_Plan___contains__) (defBody st_Plan___contains__) (defScope st_Plan___contains__) [] [] f fd) (hc : Cls K (He.ga K "Plan")) (hm : Meth K (He.ga K "Plan") "__contains__" f) : GMt P w K mg base "Plan" "__contains__" 2 2 F_Plan___contains__ :=
  GMt.of (ps := ps_Plan___contains__) F sc_Plan___contains__ hc hm (F.bindsN fun _ _ _ _ _ _ us hl => match us, hl with | [_, _], _ => rfl) (b_Plan___contains__ gf_go_rows G_row_at)
/-! Plan_init -/
def N_Plan_init : List Str := ["self", "rows", "met", "n", "row"]
def ps_Plan_init : List Str := ["self", "rows"]
abbrev st_Plan_init : Stmt := meth 40 0
theorem sc_Plan_init : FnScope N_Plan_init ps_Plan_init (defScope st_Plan_init) := ⟨rfl, rfl, rfl, by decide +kernel, rfl, by decide +kernel, by decide +kernel⟩
def ms_Plan_init : MS := (sSeq (sIf (bOf (mOp2 dGt (oVal (mB fLen (aoCons (oLoc 1) aoNil))) (oVal (mCst (.int 12))))) (fun _ _ => .stuck) sNext)
  (sSeq (sSetN 2 (nLst (aCons (mTup (aCons (mCst (.int 0)) aNil)) aNil)))
  (sSeq (sFor (iEnumM (aCons (mVar 1) aNil)) (gTp 2 (gsCons (gNm 3) (gsCons (gNm 4) gsNil))) (sSeq (sIf (bNot (bTru (oVal (mCall 2 F_good_row (aCons (mVar 4) (aCons (mOp2 dIx (oLoc 2) (oLoc 3)) aNil)))))) (fun _ _ => .stuck) sNext)
  (sExpr (mMut fApp (oLoc 2) (aCons (mCall 1 F_next_goods (aCons (mVar 4) aNil)) aNil)))))
  (sSeq (sFldP "go_rows" ["Plan"] (oLoc 0) (mB fTuple (aoCons (oVal (nLc (iSeq (mVar 1)) (gNm 4) [4] bYes (mB fTuple (aoCons (oLoc 4) aoNil)))) aoNil)))
  (sFldP "met_rows" ["Plan"] (oLoc 0) (mB fTuple (aoCons (oLoc 2) aoNil)))))))
def F_Plan_init : Fn := fnInit "Plan" 5 ms_Plan_init
theorem b_Plan_init {P : Program} {w : World} {K : PySem.W.Frag} {mg : Str → Option Value} {base : Heap} (hb_len : mg "len" = none) (gc_MOST_LOOKS : ∃ u, mg "MOST_LOOKS" = some u ∧ L2.RelV (.int 12) u) (hb_enumerate : mg "enumerate" = none) (G_good_row : GFn P w K mg base "good_row" 2 1 F_good_row) (G_next_goods : GFn P w K mg base "next_goods" 1 1 F_next_goods) (hb_tuple : mg "tuple" = none) (gf_go_rows : GFd K "go_rows" ["Plan"]) (gf_met_rows : GFd K "met_rows" ["Plan"]) (X : Cx) (C : Vf.Ctx) (e1 : X.prog = P) (e2 : X.w = w) (e3 : X.mg = mg) (e4 : X.base = base) (e5 : X.K = K) (e6 : C.K = K) (e7 : X.N = N_Plan_init)
    (e8 : X.env.scope = defScope st_Plan_init) (e9 : X.fn = fun _ => true) (ok : Oks X C 1) : ESs X C (defBody st_Plan_init) ms_Plan_init := by
  obtain ⟨_, _, _, _, _, A, _, s0, H0, ⟨_, l, gl, cl, qu, fu, co, fr, bu⟩, ou, sk, ex, _, calm, pn, xe⟩ := X
  obtain ⟨_, wish⟩ := C
  dsimp only at e1 e2 e3 e4 e5 e6 e7 e8 e9
  subst e1 e2 e3 e4 e5 e6 e7 e8 e9
  have okc := ok.toOkc
  exact (ss_cons (s_if (b_cmp op_gt od_gt (o_val (e_callB (call_len.or call_lenD) cd_len hb_len rfl (ao_cons (o_loc 1) ao_nil))) (o_val (e_glob rfl gc_MOST_LOOKS (fun _ _ _ => .int _)))) (ss_one s_stuck) ss_nil)
    (ss_cons (s_setN 2 okc.nd (n_lst (a_cons (e_tup (a_cons e_int a_nil)) a_nil)))
    (ss_cons (s_for okc.calm ok.po (i_enum hb_enumerate (a_cons (e_var 1) a_nil)) (g_tup okc.calm (gs_cons (g_name 3 okc.nd) (gs_cons (g_name 4 okc.nd) gs_nil))) (ss_cons (s_if (b_not (b_tru (o_val (e_call G_good_row okc (by decide) (a_cons (e_var 4) (a_cons (e_ix ix_seq od_ix (o_loc 2) (o_loc 3)) a_nil)))))) (ss_one s_stuck) ss_nil)
    (ss_one (s_expr (e_append rfl (o_loc 2) (a_cons (e_call G_next_goods okc (by decide) (a_cons (e_var 4) a_nil)) a_nil))))))
    (ss_cons (s_fld gf_go_rows rfl (o_loc 0) (e_callTy call_tuple_of cd_tuple hb_tuple rfl (ao_cons (o_val (e_new (n_lc okc.calm okc.nd [("row", 4)] (by rfl) (i_seq (e_var 1)) (fun s H c cl fp => (g_name 4 (okc.blk s H _ _ fp).nd)) (fun s H c cl fp => ts_nil) (fun s H c cl fp => (e_callTy call_tuple_of cd_tuple hb_tuple rfl (ao_cons (o_loc 4) ao_nil)))))) ao_nil)))
    (ss_one (s_fld gf_met_rows rfl (o_loc 0) (e_callTy call_tuple_of cd_tuple hb_tuple rfl (ao_cons (o_loc 2) ao_nil))))))))
theorem g_Plan_init {P : Program} {w : World} {K : PySem.W.Frag} {mg : Str → Option Value} {base : Heap} {qu : Str} {f : Addr} {fd : FuncData} (hb_len : mg "len" = none) (gc_MOST_LOOKS : ∃ u, mg "MOST_LOOKS" = some u ∧ L2.RelV (.int 12) u) (hb_enumerate : mg "enumerate" = none) (G_good_row : GFn P w K mg base "good_row" 2 1 F_good_row) (G_next_goods : GFn P w K mg base "next_goods" 1 1 F_next_goods) (hb_tuple : mg "tuple" = none) (gf_go_rows : GFd K "go_rows" ["Plan"]) (gf_met_rows : GFd K "met_rows" ["Plan"]) (F : FunD K "__init__" qu (defArgs st_Plan_init) (defBody st_Plan_init) (defScope st_Plan_init) [] [] f fd) (hm : mg "Plan" = some (.ref (He.ga K "Plan"))) (hk : Mk K (He.ga K "Plan") f) : GMk P w K mg base "Plan" 1 2 F_Plan_init :=
  GMk.of (ps := ps_Plan_init) F sc_Plan_init rfl hm hk (F.bindsN fun _ _ _ _ _ _ us hl => match us, hl with | [_, _], _ => rfl) (b_Plan_init hb_len gc_MOST_LOOKS hb_enumerate G_good_row G_next_goods hb_tuple gf_go_rows gf_met_rows)
/-! all_looks -/
def N_all_looks : List Str := ["plans", "plan"]
def ps_all_looks : List Str := ["plans"]
abbrev st_all_looks : Stmt := top 28
theorem sc_all_looks : FnScope N_all_looks ps_all_looks (defScope st_all_looks) := ⟨rfl, rfl, rfl, by decide +kernel, rfl, by decide +kernel, by decide +kernel⟩
def ms_all_looks : MS := (sRet (mB fSum (aoCons (oVal (nLc (iSeq (mVar 0)) (gNm 1) [1] bYes (mProp "Plan" F_Plan_longest (mVar 1)))) aoNil)))
def F_all_looks : Fn := fnOf 2 ms_all_looks
theorem b_all_looks {P : Program} {w : World} {K : PySem.W.Frag} {mg : Str → Option Value} {base : Heap} (GP_Plan_longest : GPr P w K mg base "Plan" "longest" 1 F_Plan_longest) (hb_sum : mg "sum" = none) (X : Cx) (C : Vf.Ctx) (e1 : X.prog = P) (e2 : X.w = w) (e3 : X.mg = mg) (e4 : X.base = base) (e5 : X.K = K) (e6 : C.K = K) (e7 : X.N = N_all_looks)
    (e8 : X.env.scope = defScope st_all_looks) (e9 : X.fn = fun _ => true) (ok : Oks X C 2) : ESs X C (defBody st_all_looks) ms_all_looks := by
  obtain ⟨_, _, _, _, _, A, _, s0, H0, ⟨_, l, gl, cl, qu, fu, co, fr, bu⟩, ou, sk, ex, _, calm, pn, xe⟩ := X
  obtain ⟨_, wish⟩ := C
  dsimp only at e1 e2 e3 e4 e5 e6 e7 e8 e9
  subst e1 e2 e3 e4 e5 e6 e7 e8 e9
  have okc := ok.toOkc
  exact (ss_one (s_ret (e_callB (cr_sum okc.calm) cd_sum hb_sum rfl (ao_cons (o_val (e_new (n_lc okc.calm okc.nd [("plan", 1)] (by rfl) (i_seq (e_var 0)) (fun s H c cl fp => (g_name 1 (okc.blk s H _ _ fp).nd)) (fun s H c cl fp => ts_nil) (fun s H c cl fp => (e_prop GP_Plan_longest (okc.blk s H _ _ fp) (by decide) (e_var 1)))))) ao_nil))))
theorem g_all_looks {P : Program} {w : World} {K : PySem.W.Frag} {mg : Str → Option Value} {base : Heap} {qu : Str} {f : Addr} {fd : FuncData} (GP_Plan_longest : GPr P w K mg base "Plan" "longest" 1 F_Plan_longest) (hb_sum : mg "sum" = none) (F : FunD K "all_looks" qu (defArgs st_all_looks) (defBody st_all_looks) (defScope st_all_looks) [] [] f fd) (hm : mg "all_looks" = some (.ref f)) : GFn P w K mg base "all_looks" 1 3 F_all_looks :=
  GFn.of (ps := ps_all_looks) F sc_all_looks hm (F.bindsN fun _ _ _ _ _ _ us hl => match us, hl with | [_], _ => rfl) (b_all_looks GP_Plan_longest hb_sum)
/-! run_rest -/
def N_run_rest : List Str := ["plans", "things", "courses", "at", "plan", "start", "place"]
def ps_run_rest : List Str := ["plans", "things"]
abbrev st_run_rest : Stmt := top 31
theorem sc_run_rest : FnScope N_run_rest ps_run_rest (defScope st_run_rest) := ⟨rfl, rfl, rfl, by decide +kernel, rfl, by decide +kernel, by decide +kernel⟩
def ms_run_rest : MS := (sSeq (sSetN 2 (nLst aNil))
  (sSeq (sSet 3 (mCst (.int 0)))
  (sSeq (sFor (iSeq (mVar 0)) (gNm 4) (sSeq (sSet 5 (mVar 3))
  (sSeq (sSet 6 (mTup (aCons (mCst (.int 0)) (aCons (mCst (.int 0)) aNil))))
  (sSeq (sWhile 100 (bOf (mInK "Plan" F_Plan___contains__ id (mVar 6) (mVar 4))) (sSeq (sSet 6 (mCall 2 F_stepped (aCons (mVar 6) (aCons (mOp2 dIx (oLoc 1) (oLoc 3)) aNil))))
  (sAug 3 dAddA (mCst (.int 1)))))
  (sExpr (mMut fApp (oLoc 2) (aCons (mSl (oLoc 1) (pSome (mVar 5)) (pSome (mVar 3))) aNil)))))))
  (sRetL 2))))
def F_run_rest : Fn := fnOf 7 ms_run_rest
theorem b_run_rest {P : Program} {w : World} {K : PySem.W.Frag} {mg : Str → Option Value} {base : Heap} (GM_Plan___contains__ : GMt P w K mg base "Plan" "__contains__" 2 2 F_Plan___contains__) (G_stepped : GFn P w K mg base "stepped" 2 1 F_stepped) (X : Cx) (C : Vf.Ctx) (e1 : X.prog = P) (e2 : X.w = w) (e3 : X.mg = mg) (e4 : X.base = base) (e5 : X.K = K) (e6 : C.K = K) (e7 : X.N = N_run_rest)
    (e8 : X.env.scope = defScope st_run_rest) (e9 : X.fn = fun _ => true) (ok : Oks X C 2) : ESs X C (defBody st_run_rest) ms_run_rest := by
  obtain ⟨_, _, _, _, _, A, _, s0, H0, ⟨_, l, gl, cl, qu, fu, co, fr, bu⟩, ou, sk, ex, _, calm, pn, xe⟩ := X
  obtain ⟨_, wish⟩ := C
  dsimp only at e1 e2 e3 e4 e5 e6 e7 e8 e9
  subst e1 e2 e3 e4 e5 e6 e7 e8 e9
  have okc := ok.toOkc
  exact (ss_cons (s_setN 2 okc.nd (n_lst a_nil))
    (ss_cons (s_set 3 okc.nd e_int)
    (ss_cons (s_for okc.calm ok.po (i_seq (e_var 0)) (g_name 4 okc.nd) (ss_cons (s_set 5 okc.nd (e_var 3))
    (ss_cons (s_set 6 okc.nd (e_tup (a_cons e_int (a_cons e_int a_nil))))
    (ss_cons (s_while 100 ok.po (b_inK GM_Plan___contains__ okc (by decide) (e_var 6) (e_var 4)) (ss_cons (s_set 6 okc.nd (e_call G_stepped okc (by decide) (a_cons (e_var 6) (a_cons (e_ix ix_seq od_ix (o_loc 1) (o_loc 3)) a_nil))))
    (ss_one (s_aug 3 okc.nd ip_addA od_addA e_int))))
    (ss_one (s_expr (e_append rfl (o_loc 2) (a_cons (e_sl rfl (o_loc 1) (p_some (e_var 5)) (p_some (e_var 3))) a_nil))))))))
    (ss_one (s_retL 2)))))
theorem g_run_rest {P : Program} {w : World} {K : PySem.W.Frag} {mg : Str → Option Value} {base : Heap} {qu : Str} {f : Addr} {fd : FuncData} (GM_Plan___contains__ : GMt P w K mg base "Plan" "__contains__" 2 2 F_Plan___contains__) (G_stepped : GFn P w K mg base "stepped" 2 1 F_stepped) (F : FunD K "run_rest" qu (defArgs st_run_rest) (defBody st_run_rest) (defScope st_run_rest) [] [] f fd) (hm : mg "run_rest" = some (.ref f)) : GFn P w K mg base "run_rest" 2 3 F_run_rest :=
  GFn.of (ps := ps_run_rest) F sc_run_rest hm (F.bindsN fun _ _ _ _ _ _ us hl => match us, hl with | [_, _], _ => rfl) (b_run_rest GM_Plan___contains__ G_stepped)
/-! run_turns -/
def N_run_turns : List Str := ["plans", "things", "places", "courses", "at", "going", "spare", "turn", "plan"]
def ps_run_turns : List Str := ["plans", "things"]
abbrev st_run_turns : Stmt := top 32
theorem sc_run_turns : FnScope N_run_turns ps_run_turns (defScope st_run_turns) := ⟨rfl, rfl, rfl, by decide +kernel, rfl, by decide +kernel, by decide +kernel⟩
def ms_run_turns : MS := (sSeq (sSetN 2 (nLc (iSeq (mVar 0)) (gNm 6) [6] bYes (mTup (aCons (mCst (.int 0)) (aCons (mCst (.int 0)) aNil)))))
  (sSeq (sSetN 3 (nLc (iSeq (mVar 0)) (gNm 6) [6] bYes (mCst (.str ""))))
  (sSeq (sSet 4 (mCst (.int 0)))
  (sSeq (sSet 5 (mCst (.bl true)))
  (sSeq (sWhile 100 (bTru (oLoc 5)) (sSeq (sSet 5 (mCst (.bl false)))
  (sFor (iEnumM (aCons (mVar 0) aNil)) (gTp 2 (gsCons (gNm 7) (gsCons (gNm 8) gsNil))) (sIf (bOf (mInK "Plan" F_Plan___contains__ id (mOp2 dIx (oLoc 2) (oLoc 7)) (mVar 8))) (sSeq (sPut (oLoc 2) (mVar 7) (mCall 2 F_stepped (aCons (mOp2 dIx (oLoc 2) (oLoc 7)) (aCons (mOp2 dIx (oLoc 1) (oLoc 4)) aNil))))
  (sSeq (sPut (oLoc 3) (mVar 7) (mOp2 dAdd (oVal (mOp2 dIx (oLoc 3) (oLoc 7))) (oVal (mOp2 dIx (oLoc 1) (oLoc 4)))))
  (sSeq (sAug 4 dAddA (mCst (.int 1)))
  (sSet 5 (mCst (.bl true)))))) sNext))))
  (sRetL 3))))))
def F_run_turns : Fn := fnOf 9 ms_run_turns
theorem b_run_turns {P : Program} {w : World} {K : PySem.W.Frag} {mg : Str → Option Value} {base : Heap} (hb_enumerate : mg "enumerate" = none) (GM_Plan___contains__ : GMt P w K mg base "Plan" "__contains__" 2 2 F_Plan___contains__) (G_stepped : GFn P w K mg base "stepped" 2 1 F_stepped) (X : Cx) (C : Vf.Ctx) (e1 : X.prog = P) (e2 : X.w = w) (e3 : X.mg = mg) (e4 : X.base = base) (e5 : X.K = K) (e6 : C.K = K) (e7 : X.N = N_run_turns)
    (e8 : X.env.scope = defScope st_run_turns) (e9 : X.fn = fun _ => true) (ok : Oks X C 2) : ESs X C (defBody st_run_turns) ms_run_turns := by
  obtain ⟨_, _, _, _, _, A, _, s0, H0, ⟨_, l, gl, cl, qu, fu, co, fr, bu⟩, ou, sk, ex, _, calm, pn, xe⟩ := X
  obtain ⟨_, wish⟩ := C
  dsimp only at e1 e2 e3 e4 e5 e6 e7 e8 e9
  subst e1 e2 e3 e4 e5 e6 e7 e8 e9
  have okc := ok.toOkc
  exact (ss_cons (s_setLcN 2 okc.calm okc.nd [("spare", 6)] (by rfl) rfl (i_seq (e_var 0)) (fun s H c cl fp => (g_name 6 (okc.blk s H _ _ fp).nd)) (fun s H c cl fp => ts_nil) (fun s H c cl fp => (e_tup (a_cons e_int (a_cons e_int a_nil)))))
    (ss_cons (s_setLcN 3 okc.calm okc.nd [("spare", 6)] (by rfl) rfl (i_seq (e_var 0)) (fun s H c cl fp => (g_name 6 (okc.blk s H _ _ fp).nd)) (fun s H c cl fp => ts_nil) (fun s H c cl fp => e_str))
    (ss_cons (s_set 4 okc.nd e_int)
    (ss_cons (s_set 5 okc.nd e_bl)
    (ss_cons (s_while 100 ok.po (b_tru (o_loc 5)) (ss_cons (s_set 5 okc.nd e_bl)
    (ss_one (s_for okc.calm ok.po (i_enum hb_enumerate (a_cons (e_var 0) a_nil)) (g_tup okc.calm (gs_cons (g_name 7 okc.nd) (gs_cons (g_name 8 okc.nd) gs_nil))) (ss_one (s_if (b_inK GM_Plan___contains__ okc (by decide) (e_ix ix_seq od_ix (o_loc 2) (o_loc 7)) (e_var 8)) (ss_cons (s_put okc (o_loc 2) (e_var 7) (e_call G_stepped okc (by decide) (a_cons (e_ix ix_seq od_ix (o_loc 2) (o_loc 7)) (a_cons (e_ix ix_seq od_ix (o_loc 1) (o_loc 4)) a_nil))))
    (ss_cons (s_put okc (o_loc 3) (e_var 7) (e_op op_addAll od_add (o_val (e_ix ix_seq od_ix (o_loc 3) (o_loc 7))) (o_val (e_ix ix_seq od_ix (o_loc 1) (o_loc 4)))))
    (ss_cons (s_aug 4 okc.nd ip_addA od_addA e_int)
    (ss_one (s_set 5 okc.nd e_bl))))) ss_nil))))))
    (ss_one (s_retL 3)))))))
theorem g_run_turns {P : Program} {w : World} {K : PySem.W.Frag} {mg : Str → Option Value} {base : Heap} {qu : Str} {f : Addr} {fd : FuncData} (hb_enumerate : mg "enumerate" = none) (GM_Plan___contains__ : GMt P w K mg base "Plan" "__contains__" 2 2 F_Plan___contains__) (G_stepped : GFn P w K mg base "stepped" 2 1 F_stepped) (F : FunD K "run_turns" qu (defArgs st_run_turns) (defBody st_run_turns) (defScope st_run_turns) [] [] f fd) (hm : mg "run_turns" = some (.ref f)) : GFn P w K mg base "run_turns" 2 3 F_run_turns :=
  GFn.of (ps := ps_run_turns) F sc_run_turns hm (F.bindsN fun _ _ _ _ _ _ us hl => match us, hl with | [_, _], _ => rfl) (b_run_turns hb_enumerate GM_Plan___contains__ G_stepped)
/-! run_lot -/
def N_run_lot : List Str := ["plans", "things", "turns"]
def ps_run_lot : List Str := ["plans", "things", "turns"]
abbrev st_run_lot : Stmt := top 30
theorem sc_run_lot : FnScope N_run_lot ps_run_lot (defScope st_run_lot) := ⟨rfl, rfl, rfl, by decide +kernel, rfl, by decide +kernel, by decide +kernel⟩
def ms_run_lot : MS := (sSeq (sIf (bOf (mOp2 dLt (oVal (mB fLen (aoCons (oLoc 1) aoNil))) (oVal (mCall 1 F_all_looks (aCons (mVar 0) aNil))))) (sRaise0 "BadLot") sNext)
  (sSeq (sIf (bTru (oLoc 2)) (sRetN (nCall 2 F_run_turns (aCons (mVar 0) (aCons (mVar 1) aNil)))) sNext)
  (sRetN (nCall 2 F_run_rest (aCons (mVar 0) (aCons (mVar 1) aNil))))))
def F_run_lot : Fn := fnOf 3 ms_run_lot
def FD_run_lot : Fn := fun ds S => F_run_lot (ds ++ [.bl false]) S
theorem b_run_lot {P : Program} {w : World} {K : PySem.W.Frag} {mg : Str → Option Value} {base : Heap} (hb_len : mg "len" = none) (G_all_looks : GFn P w K mg base "all_looks" 1 3 F_all_looks) (GX_BadLot : GXc K mg "BadLot") (G_run_turns : GFn P w K mg base "run_turns" 2 3 F_run_turns) (G_run_rest : GFn P w K mg base "run_rest" 2 3 F_run_rest) (X : Cx) (C : Vf.Ctx) (e1 : X.prog = P) (e2 : X.w = w) (e3 : X.mg = mg) (e4 : X.base = base) (e5 : X.K = K) (e6 : C.K = K) (e7 : X.N = N_run_lot)
    (e8 : X.env.scope = defScope st_run_lot) (e9 : X.fn = fun _ => true) (ok : Oks X C 3) : ESs X C (defBody st_run_lot) ms_run_lot := by
  obtain ⟨_, _, _, _, _, A, _, s0, H0, ⟨_, l, gl, cl, qu, fu, co, fr, bu⟩, ou, sk, ex, _, calm, pn, xe⟩ := X
  obtain ⟨_, wish⟩ := C
  dsimp only at e1 e2 e3 e4 e5 e6 e7 e8 e9
  subst e1 e2 e3 e4 e5 e6 e7 e8 e9
  have okc := ok.toOkc
  exact (ss_cons (s_if (b_cmp op_lt od_lt (o_val (e_callB (call_len.or call_lenD) cd_len hb_len rfl (ao_cons (o_loc 1) ao_nil))) (o_val (e_call G_all_looks okc (by decide) (a_cons (e_var 0) a_nil)))) (ss_one (s_raise0 okc GX_BadLot)) ss_nil)
    (ss_cons (s_if (b_tru (o_loc 2)) (ss_one (s_retN (n_call G_run_turns okc (by decide) (a_cons (e_var 0) (a_cons (e_var 1) a_nil))))) ss_nil)
    (ss_one (s_retN (n_call G_run_rest okc (by decide) (a_cons (e_var 0) (a_cons (e_var 1) a_nil)))))))
/-! law_matches -/
def N_law_matches : List Str := ["actual", "expected", "k"]
def ps_law_matches : List Str := ["actual", "expected"]
abbrev st_law_matches : Stmt := top 48
theorem sc_law_matches : FnScope N_law_matches ps_law_matches (defScope st_law_matches) := ⟨rfl, rfl, rfl, by decide +kernel, rfl, by decide +kernel, by decide +kernel⟩
def ms_law_matches (F : Fn) : MS := (sSeq (sIf (bOf (mOp2 dIsN (oLoc 1) (oVal (mCst .non)))) (sRet (mOp2 dIsN (oLoc 0) (oVal (mCst .non)))) sNext)
  (sSeq (sIf (bTru (oVal (mIsT "bool" (oLoc 1)))) (sRet (vAnd (mIsT "bool" (oLoc 0)) (mOp2 dEq (oLoc 0) (oLoc 1)))) sNext)
  (sSeq (sIf (bTru (oVal (mIsT "int" (oLoc 1)))) (sRet (vAnd (mIsT "int" (oLoc 0)) (vAnd (vNot (mIsT "bool" (oLoc 0))) (mOp2 dEq (oLoc 0) (oLoc 1))))) sNext)
  (sSeq (sIf (bTru (oVal (mIsT "str" (oLoc 1)))) (sRet (vAnd (mIsT "str" (oLoc 0)) (mOp2 dEq (oLoc 0) (oLoc 1)))) sNext)
  (sSeq (sIf (bOr (bAnd (bNot (bTru (oVal (mIsT "list" (oLoc 0))))) (bNot (bTru (oVal (mIsT "tuple" (oLoc 0)))))) (bOf (mOp2 dNe (oVal (mB fLen (aoCons (oLoc 0) aoNil))) (oVal (mB fLen (aoCons (oLoc 1) aoNil)))))) (sRet (mCst (.bl false))) sNext)
  (sSeq (sIf (bOf (mOp2 dNe (oVal (mIsT "list" (oLoc 0))) (oVal (mIsT "list" (oLoc 1))))) (sRet (mCst (.bl false))) sNext)
  (sSeq (sFor (iR1 (aoCons (oVal (mB fLen (aoCons (oLoc 1) aoNil))) aoNil)) (gNm 2) (sIf (bNot (bTru (oVal (mCall 2 F (aCons (mOp2 dIx (oLoc 0) (oLoc 2)) (aCons (mOp2 dIx (oLoc 1) (oLoc 2)) aNil)))))) (sRet (mCst (.bl false))) sNext))
  (sRet (mCst (.bl true))))))))))
def F_law_matches : Nat → Fn
  | 0 => fun _ _ => .stuck
  | n + 1 => fnOf 3 (ms_law_matches (F_law_matches n))
theorem b_law_matches {P : Program} {w : World} {K : PySem.W.Frag} {mg : Str → Option Value} {base : Heap} {F : Fn} {j : Nat} (hb_isinstance : mg "isinstance" = none) (hb_bool : mg "bool" = none) (hb_int : mg "int" = none) (hb_str : mg "str" = none) (hb_list : mg "list" = none) (hb_tuple : mg "tuple" = none) (hb_len : mg "len" = none) (hb_range : mg "range" = none) (G_self : GFn P w K mg base "_law_matches" 2 j F) (X : Cx) (C : Vf.Ctx) (e1 : X.prog = P) (e2 : X.w = w) (e3 : X.mg = mg) (e4 : X.base = base) (e5 : X.K = K) (e6 : C.K = K) (e7 : X.N = N_law_matches)
    (e8 : X.env.scope = defScope st_law_matches) (e9 : X.fn = fun _ => true) (ok : Oks X C j) : ESs X C (defBody st_law_matches) (ms_law_matches F) := by
  obtain ⟨_, _, _, _, _, A, _, s0, H0, ⟨_, l, gl, cl, qu, fu, co, fr, bu⟩, ou, sk, ex, _, calm, pn, xe⟩ := X
  obtain ⟨_, wish⟩ := C
  dsimp only at e1 e2 e3 e4 e5 e6 e7 e8 e9
  subst e1 e2 e3 e4 e5 e6 e7 e8 e9
  have okc := ok.toOkc
  exact (ss_cons (s_if (b_cmp op_isN od_isN (o_loc 1) (o_val e_non)) (ss_one (s_ret (e_cmp op_isN od_isN (o_loc 0) (o_val e_non)))) ss_nil)
    (ss_cons (s_if (b_tru (o_val (e_isT (T := "bool") rfl hb_isinstance hb_bool rfl (o_loc 1)))) (ss_one (s_ret (v_and (e_isT (T := "bool") rfl hb_isinstance hb_bool rfl (o_loc 0)) (v_one (e_cmp (op_eqA okc.room.units) od_eq (o_loc 0) (o_loc 1)))))) ss_nil)
    (ss_cons (s_if (b_tru (o_val (e_isT (T := "int") rfl hb_isinstance hb_int rfl (o_loc 1)))) (ss_one (s_ret (v_and (e_isT (T := "int") rfl hb_isinstance hb_int rfl (o_loc 0)) (v_and (v_not (e_isT (T := "bool") rfl hb_isinstance hb_bool rfl (o_loc 0))) (v_one (e_cmp (op_eqA okc.room.units) od_eq (o_loc 0) (o_loc 1))))))) ss_nil)
    (ss_cons (s_if (b_tru (o_val (e_isT (T := "str") rfl hb_isinstance hb_str rfl (o_loc 1)))) (ss_one (s_ret (v_and (e_isT (T := "str") rfl hb_isinstance hb_str rfl (o_loc 0)) (v_one (e_cmp (op_eqA okc.room.units) od_eq (o_loc 0) (o_loc 1)))))) ss_nil)
    (ss_cons (s_if (b_w (w_or (b_w (w_and (b_not (b_tru (o_val (e_isT (T := "list") rfl hb_isinstance hb_list rfl (o_loc 0))))) (w_and1 (b_not (b_tru (o_val (e_isT (T := "tuple") rfl hb_isinstance hb_tuple rfl (o_loc 0)))))))) (w_or1 (b_cmp (op_neA okc.room.units) od_ne (o_val (e_callB (call_len.or call_lenD) cd_len hb_len rfl (ao_cons (o_loc 0) ao_nil))) (o_val (e_callB (call_len.or call_lenD) cd_len hb_len rfl (ao_cons (o_loc 1) ao_nil))))))) (ss_one (s_ret e_bl)) ss_nil)
    (ss_cons (s_if (b_cmp (op_neA okc.room.units) od_ne (o_val (e_isT (T := "list") rfl hb_isinstance hb_list rfl (o_loc 0))) (o_val (e_isT (T := "list") rfl hb_isinstance hb_list rfl (o_loc 1)))) (ss_one (s_ret e_bl)) ss_nil)
    (ss_cons (s_for okc.calm ok.po (i_range1 hb_range (ao_cons (o_val (e_callB (call_len.or call_lenD) cd_len hb_len rfl (ao_cons (o_loc 1) ao_nil))) ao_nil)) (g_name 2 okc.nd) (ss_one (s_if (b_not (b_tru (o_val (e_call G_self okc (Nat.le_refl _) (a_cons (e_ix ix_seq od_ix (o_loc 0) (o_loc 2)) (a_cons (e_ix ix_seq od_ix (o_loc 1) (o_loc 2)) a_nil)))))) (ss_one (s_ret e_bl)) ss_nil)))
    (ss_one (s_ret e_bl)))))))))
theorem g_law_matches {P : Program} {w : World} {K : PySem.W.Frag} {mg : Str → Option Value} {base : Heap} {F : Fn} {j : Nat} {qu : Str} {f : Addr} {fd : FuncData} (hb_isinstance : mg "isinstance" = none) (hb_bool : mg "bool" = none) (hb_int : mg "int" = none) (hb_str : mg "str" = none) (hb_list : mg "list" = none) (hb_tuple : mg "tuple" = none) (hb_len : mg "len" = none) (hb_range : mg "range" = none) (G_self : GFn P w K mg base "_law_matches" 2 j F) (Fd : FunD K "_law_matches" qu (defArgs st_law_matches) (defBody st_law_matches) (defScope st_law_matches) [] [] f fd) (hm : mg "_law_matches" = some (.ref f)) : GFn P w K mg base "_law_matches" 2 (j + 1) (fnOf 3 (ms_law_matches F)) :=
  GFn.of (ps := ps_law_matches) Fd sc_law_matches hm (Fd.bindsN fun _ _ _ _ _ _ us hl => match us, hl with | [_, _], _ => rfl) (b_law_matches hb_isinstance hb_bool hb_int hb_str hb_list hb_tuple hb_len hb_range G_self)
end K84
namespace K84
open PySem PySem.Spec PyProof.Rows L2 L2H Vf
/-! law_class_of -/
def N_law_class_of : List Str := ["flags", "refused", "plain", "names", "found", "k"]
def ps_law_class_of : List Str := ["flags", "refused", "plain"]
abbrev st_law_class_of : Stmt := top 49
theorem sc_law_class_of : FnScope N_law_class_of ps_law_class_of (defScope st_law_class_of) := ⟨rfl, rfl, rfl, by decide +kernel, rfl, by decide +kernel, by decide +kernel⟩
def ms_law_class_of : MS := (sSeq (sSet 3 (nLst (aCons (mCst (.str "BadFraction")) (aCons (mCst (.str "BadShare")) (aCons (mCst (.str "BadPoly")) (aCons (mCst (.str "BadEnds")) (aCons (mCst (.str "BadLot")) (aCons (mCst (.str "BadTelling")) (aCons (mCst (.str "BadVerdict")) (aCons (mCst (.str "BadDesign")) aNil))))))))))
  (sSeq (sSet 3 (mOp2 dAdd (oLoc 3) (oVal (nLst (aCons (mCst (.str "NotStop")) (aCons (mCst (.str "BadText")) (aCons (mCst (.str "BadPlan")) (aCons (mCst (.str "BadCourse")) (aCons (mCst (.str "BadPage")) (aCons (mCst (.str "TooLong")) (aCons (mCst (.str "TooDeep")) (aCons (mCst (.str "TooMany")) (aCons (mCst (.str "Untold")) aNil)))))))))))))
  (sSeq (sSet 3 (mOp2 dAdd (oLoc 3) (oVal (nLst (aCons (mCst (.str "HasGap")) (aCons (mCst (.str "Begun")) (aCons (mCst (.str "Unknown")) (aCons (mCst (.str "Twice")) (aCons (mCst (.str "Stopped")) (aCons (mCst (.str "NotEnded")) aNil))))))))))
  (sSeq (sSet 4 (nLc (iR1 (aoCons (oVal (mCst (.int 23))) aoNil)) (gNm 5) [5] (bTru (oVal (mOp2 dIx (oLoc 0) (oLoc 5)))) (mOp2 dIx (oLoc 3) (oLoc 5))))
  (sSeq (sIf (bOr (bOf (mOp2 dNe (oVal (mB fLen (aoCons (oLoc 4) aoNil))) (oVal (mCst (.int 1))))) (bOr (bNot (bTru (oLoc 2))) (bOf (mOp2 dNe (oLoc 1) (oVal (mOp2 dIn (oVal (mOp2 dIx (oLoc 4) (oVal (mCst (.int 0))))) (oVal (mSl (oLoc 3) (pSome (mCst (.int 18))) pNone)))))))) (sRet (mCst (.str "several"))) sNext)
  (sRet (mOp2 dIx (oLoc 4) (oVal (mCst (.int 0))))))))))
def F_law_class_of : Fn := fnOf 6 ms_law_class_of
theorem b_law_class_of {P : Program} {w : World} {K : PySem.W.Frag} {mg : Str → Option Value} {base : Heap} (hb_range : mg "range" = none) (hb_len : mg "len" = none) (X : Cx) (C : Vf.Ctx) (e1 : X.prog = P) (e2 : X.w = w) (e3 : X.mg = mg) (e4 : X.base = base) (e5 : X.K = K) (e6 : C.K = K) (e7 : X.N = N_law_class_of)
    (e8 : X.env.scope = defScope st_law_class_of) (e9 : X.fn = fun _ => true) (ok : Okh X C 0) : ESs X C (defBody st_law_class_of) ms_law_class_of := by
  obtain ⟨_, _, _, _, _, A, _, s0, H0, ⟨_, l, gl, cl, qu, fu, co, fr, bu⟩, ou, sk, ex, _, calm, pn, xe⟩ := X
  obtain ⟨_, wish⟩ := C
  dsimp only at e1 e2 e3 e4 e5 e6 e7 e8 e9
  subst e1 e2 e3 e4 e5 e6 e7 e8 e9
  have okc := ok
  exact (ss_cons (s_set 3 okc.nd (e_new (n_lst (a_cons e_str (a_cons e_str (a_cons e_str (a_cons e_str (a_cons e_str (a_cons e_str (a_cons e_str (a_cons e_str a_nil)))))))))))
    (ss_cons (s_set 3 okc.nd (e_op op_addAll od_add (o_loc 3) (o_val (e_new (n_lst (a_cons e_str (a_cons e_str (a_cons e_str (a_cons e_str (a_cons e_str (a_cons e_str (a_cons e_str (a_cons e_str (a_cons e_str a_nil))))))))))))))
    (ss_cons (s_set 3 okc.nd (e_op op_addAll od_add (o_loc 3) (o_val (e_new (n_lst (a_cons e_str (a_cons e_str (a_cons e_str (a_cons e_str (a_cons e_str (a_cons e_str a_nil)))))))))))
    (ss_cons (s_setLcZ 4 okc.hot okc.nd [("k", 5)] (by rfl) rfl (iz_range1 hb_range (ao_cons (o_val e_int) ao_nil)) (fun s H c cl fp => (g_name 5 okc.nd)) (fun s H c cl fp => (ts_one (b_tru (o_val (e_ix ix_seq od_ix (o_loc 0) (o_loc 5)))))) (fun s H c cl fp => (e_ix ix_seq od_ix (o_loc 3) (o_loc 5))))
    (ss_cons (s_if (b_w (w_or (b_cmp (op_neA okc.room.units) od_ne (o_val (e_callB (call_len.or call_lenD) cd_len hb_len rfl (ao_cons (o_loc 4) ao_nil))) (o_val e_int)) (w_or (b_not (b_tru (o_loc 2))) (w_or1 (b_cmp (op_neA okc.room.units) od_ne (o_loc 1) (o_val (e_cmp op_in_seq od_in (o_val (e_ix ix_seq od_ix (o_loc 4) (o_val e_int))) (o_val (e_sl rfl (o_loc 3) (p_some e_int) p_none))))))))) (ss_one (s_ret e_str)) ss_nil)
    (ss_one (s_ret (e_ix ix_seq od_ix (o_loc 4) (o_val e_int)))))))))
theorem g_law_class_of {P : Program} {w : World} {K : PySem.W.Frag} {mg : Str → Option Value} {base : Heap} {qu : Str} {f : Addr} {fd : FuncData} (hb_range : mg "range" = none) (hb_len : mg "len" = none) (F : FunD K "_law_class_of" qu (defArgs st_law_class_of) (defBody st_law_class_of) (defScope st_law_class_of) [] [] f fd) (hm : mg "_law_class_of" = some (.ref f)) : GFnH P w K mg base "_law_class_of" 3 1 F_law_class_of :=
  GFnH.of (ps := ps_law_class_of) F sc_law_class_of hm (F.bindsN fun _ _ _ _ _ _ us hl => match us, hl with | [_, _, _], _ => rfl) (b_law_class_of hb_range hb_len)
/-! law_ask -/
def N_law_ask : List Str := ["plans", "row", "how", "e", "flags", "name"]
def ps_law_ask : List Str := ["plans", "row", "how"]
abbrev st_law_ask : Stmt := top 51
theorem sc_law_ask : FnScope N_law_ask ps_law_ask (defScope st_law_ask) := ⟨rfl, rfl, rfl, by decide +kernel, rfl, by decide +kernel, by decide +kernel⟩
def hd_law_ask : Str → List D → Option (D × List D) := fun c S => if c = "BadLot" then some (.tup [.str "raised", .str "BadLot"], S) else none
def su_law_ask (c : Str) (a : Addr) : MS := (sSeq (sSet 4 (nLst (aCons (mExc 3 a (subX c "BadFraction")) (aCons (mExc 3 a (subX c "BadShare")) (aCons (mExc 3 a (subX c "BadPoly")) (aCons (mExc 3 a (subX c "BadEnds")) (aCons (mExc 3 a (subX c "BadLot")) (aCons (mExc 3 a (subX c "BadTelling")) (aCons (mExc 3 a (subX c "BadVerdict")) (aCons (mExc 3 a (subX c "BadDesign")) (aCons (mExc 3 a (subX c "NotStop")) (aCons (mExc 3 a (subX c "BadText")) (aCons (mExc 3 a (subX c "BadPlan")) (aCons (mExc 3 a (subX c "BadCourse")) (aCons (mExc 3 a (subX c "BadPage")) (aCons (mExc 3 a (subX c "TooLong")) (aCons (mExc 3 a (subX c "TooDeep")) (aCons (mExc 3 a (subX c "TooMany")) (aCons (mExc 3 a (subX c "Untold")) (aCons (mExc 3 a (subX c "HasGap")) (aCons (mExc 3 a (subX c "Begun")) (aCons (mExc 3 a (subX c "Unknown")) (aCons (mExc 3 a (subX c "Twice")) (aCons (mExc 3 a (subX c "Stopped")) (aCons (mExc 3 a (subX c "NotEnded")) aNil)))))))))))))))))))))))))
  (sSeq (sSet 5 (mCall 3 F_law_class_of (aCons (mVar 4) (aCons (mExc 3 a (subX c "Refused")) (aCons (mExc 3 a true) aNil)))))
  (sRet (mTup (aCons (mCst (.str "raised")) (aCons (mVar 5) aNil))))))
def ms_law_ask : MS := (sTry 6 ["BadLot"] hd_law_ask (sSeq (sIf (bOf (mOp2 dEq (oLoc 2) (oVal (mCst (.int 0))))) (sRet (mTup (aCons (mCst (.str "told")) (aCons (mRef (nCall 2 FD_run_lot (aCons (mVar 0) (aCons (mVar 1) aNil)))) aNil)))) sNext)
  (sRet (mTup (aCons (mCst (.str "told")) (aCons (mRef (nCallK 2 1 F_run_lot (aCons (mVar 0) (aCons (mVar 1) aNil)) (aCons (mOp2 dEq (oLoc 2) (oVal (mCst (.int 2)))) aNil))) aNil))))))
def F_law_ask : Fn := fnOf 6 ms_law_ask
theorem b_law_ask {P : Program} {w : World} {K : PySem.W.Frag} {mg : Str → Option Value} {base : Heap} (GD_run_lot : GFn P w K mg base "run_lot" 2 4 FD_run_lot) (GK_run_lot : GFnK P w K mg base "run_lot" 2 ["turns"] 4 F_run_lot) (hb_isinstance : mg "isinstance" = none) (hkit : ∀ c ∈ (["BadLot"] : List Str), ∀ n ∈ K84.excs, PySem.W.kitOne K (.ref (He.ga K c)) (.ref (He.ga K n)) = some (subX c n)) (hmgx : ∀ n ∈ K84.excs, mg n = some (.ref (He.ga K n))) (hb_ValueError : mg "ValueError" = none) (hkit_ValueError : ∀ c ∈ (["BadLot"] : List Str), PySem.W.kitOne K (.ref (He.ga K c)) (.type "ValueError") = some true) (G_law_class_of : GFnH P w K mg base "_law_class_of" 3 1 F_law_class_of) (hx_TrialError : ∀ c ∈ (["BadLot"] : List Str), PySem.W.exmOne K (.ref (He.ga K c)) (.ref (He.ga K "TrialError")) = some true) (mg_TrialError : mg "TrialError" = some (.ref (He.ga K "TrialError"))) (hXc : ∀ c ∈ (["BadLot"] : List Str), ExcC K (He.ga K c)) (hh_law_ask : ∀ c a S d S2, hd_law_ask c S = some (d, S2) → ∃ env2, su_law_ask c a (hEnv 6 3 a) S = .ret d env2 S2) (X : Cx) (C : Vf.Ctx) (e1 : X.prog = P) (e2 : X.w = w) (e3 : X.mg = mg) (e4 : X.base = base) (e5 : X.K = K) (e6 : C.K = K) (e7 : X.N = N_law_ask)
    (e8 : X.env.scope = defScope st_law_ask) (e9 : X.fn = fun _ => true) (ok : Oks X C 4) : ESs X C (defBody st_law_ask) ms_law_ask := by
  obtain ⟨_, _, _, _, _, A, _, s0, H0, ⟨_, l, gl, cl, qu, fu, co, fr, bu⟩, ou, sk, ex, _, calm, pn, xe⟩ := X
  obtain ⟨_, wish⟩ := C
  dsimp only at e1 e2 e3 e4 e5 e6 e7 e8 e9
  subst e1 e2 e3 e4 e5 e6 e7 e8 e9
  have okc := ok.toOkc
  exact (ss_one (s_try 3 (xs := ["BadLot"]) (hd := hd_law_ask) (m := su_law_ask) ok ⟨rfl, by decide, .inl mg_TrialError⟩ hx_TrialError (fun wish pn xe ok => have okc := ok.toOkc; (ss_cons (s_if (b_cmp (op_eqA okc.room.units) od_eq (o_loc 2) (o_val e_int)) (ss_one (s_ret (e_tup (a_cons e_str (a_cons (e_ref (n_call GD_run_lot okc (by decide) (a_cons (e_var 0) (a_cons (e_var 1) a_nil)))) a_nil))))) ss_nil)
    (ss_one (s_ret (e_tup (a_cons e_str (a_cons (e_ref (n_callK GK_run_lot okc (by decide) (a_cons (e_var 0) (a_cons (e_var 1) a_nil)) (k_one (e_cmp (op_eqA okc.room.units) od_eq (o_loc 2) (o_val e_int))))) a_nil))))))) (fun a oe c pn hc hot hz hf okh => (ss_cons (s_set 4 okh.nd (e_new (n_lst (a_cons (e_isE 3 (hXc c hc) hz hf (hkit c hc "BadFraction" (by decide)) (pe_glob (v := .ref _) rfl (hmgx "BadFraction" (by decide)) rfl) (fun _ h => h) hb_isinstance) (a_cons (e_isE 3 (hXc c hc) hz hf (hkit c hc "BadShare" (by decide)) (pe_glob (v := .ref _) rfl (hmgx "BadShare" (by decide)) rfl) (fun _ h => h) hb_isinstance) (a_cons (e_isE 3 (hXc c hc) hz hf (hkit c hc "BadPoly" (by decide)) (pe_glob (v := .ref _) rfl (hmgx "BadPoly" (by decide)) rfl) (fun _ h => h) hb_isinstance) (a_cons (e_isE 3 (hXc c hc) hz hf (hkit c hc "BadEnds" (by decide)) (pe_glob (v := .ref _) rfl (hmgx "BadEnds" (by decide)) rfl) (fun _ h => h) hb_isinstance) (a_cons (e_isE 3 (hXc c hc) hz hf (hkit c hc "BadLot" (by decide)) (pe_glob (v := .ref _) rfl (hmgx "BadLot" (by decide)) rfl) (fun _ h => h) hb_isinstance) (a_cons (e_isE 3 (hXc c hc) hz hf (hkit c hc "BadTelling" (by decide)) (pe_glob (v := .ref _) rfl (hmgx "BadTelling" (by decide)) rfl) (fun _ h => h) hb_isinstance) (a_cons (e_isE 3 (hXc c hc) hz hf (hkit c hc "BadVerdict" (by decide)) (pe_glob (v := .ref _) rfl (hmgx "BadVerdict" (by decide)) rfl) (fun _ h => h) hb_isinstance) (a_cons (e_isE 3 (hXc c hc) hz hf (hkit c hc "BadDesign" (by decide)) (pe_glob (v := .ref _) rfl (hmgx "BadDesign" (by decide)) rfl) (fun _ h => h) hb_isinstance) (a_cons (e_isE 3 (hXc c hc) hz hf (hkit c hc "NotStop" (by decide)) (pe_glob (v := .ref _) rfl (hmgx "NotStop" (by decide)) rfl) (fun _ h => h) hb_isinstance) (a_cons (e_isE 3 (hXc c hc) hz hf (hkit c hc "BadText" (by decide)) (pe_glob (v := .ref _) rfl (hmgx "BadText" (by decide)) rfl) (fun _ h => h) hb_isinstance) (a_cons (e_isE 3 (hXc c hc) hz hf (hkit c hc "BadPlan" (by decide)) (pe_glob (v := .ref _) rfl (hmgx "BadPlan" (by decide)) rfl) (fun _ h => h) hb_isinstance) (a_cons (e_isE 3 (hXc c hc) hz hf (hkit c hc "BadCourse" (by decide)) (pe_glob (v := .ref _) rfl (hmgx "BadCourse" (by decide)) rfl) (fun _ h => h) hb_isinstance) (a_cons (e_isE 3 (hXc c hc) hz hf (hkit c hc "BadPage" (by decide)) (pe_glob (v := .ref _) rfl (hmgx "BadPage" (by decide)) rfl) (fun _ h => h) hb_isinstance) (a_cons (e_isE 3 (hXc c hc) hz hf (hkit c hc "TooLong" (by decide)) (pe_glob (v := .ref _) rfl (hmgx "TooLong" (by decide)) rfl) (fun _ h => h) hb_isinstance) (a_cons (e_isE 3 (hXc c hc) hz hf (hkit c hc "TooDeep" (by decide)) (pe_glob (v := .ref _) rfl (hmgx "TooDeep" (by decide)) rfl) (fun _ h => h) hb_isinstance) (a_cons (e_isE 3 (hXc c hc) hz hf (hkit c hc "TooMany" (by decide)) (pe_glob (v := .ref _) rfl (hmgx "TooMany" (by decide)) rfl) (fun _ h => h) hb_isinstance) (a_cons (e_isE 3 (hXc c hc) hz hf (hkit c hc "Untold" (by decide)) (pe_glob (v := .ref _) rfl (hmgx "Untold" (by decide)) rfl) (fun _ h => h) hb_isinstance) (a_cons (e_isE 3 (hXc c hc) hz hf (hkit c hc "HasGap" (by decide)) (pe_glob (v := .ref _) rfl (hmgx "HasGap" (by decide)) rfl) (fun _ h => h) hb_isinstance) (a_cons (e_isE 3 (hXc c hc) hz hf (hkit c hc "Begun" (by decide)) (pe_glob (v := .ref _) rfl (hmgx "Begun" (by decide)) rfl) (fun _ h => h) hb_isinstance) (a_cons (e_isE 3 (hXc c hc) hz hf (hkit c hc "Unknown" (by decide)) (pe_glob (v := .ref _) rfl (hmgx "Unknown" (by decide)) rfl) (fun _ h => h) hb_isinstance) (a_cons (e_isE 3 (hXc c hc) hz hf (hkit c hc "Twice" (by decide)) (pe_glob (v := .ref _) rfl (hmgx "Twice" (by decide)) rfl) (fun _ h => h) hb_isinstance) (a_cons (e_isE 3 (hXc c hc) hz hf (hkit c hc "Stopped" (by decide)) (pe_glob (v := .ref _) rfl (hmgx "Stopped" (by decide)) rfl) (fun _ h => h) hb_isinstance) (a_cons (e_isE 3 (hXc c hc) hz hf (hkit c hc "NotEnded" (by decide)) (pe_glob (v := .ref _) rfl (hmgx "NotEnded" (by decide)) rfl) (fun _ h => h) hb_isinstance) a_nil))))))))))))))))))))))))))
    (ss_cons (s_set 5 okh.nd (e_callH G_law_class_of okh (by decide) (a_cons (e_var 4) (a_cons (e_isE 3 (hXc c hc) hz hf (hkit c hc "Refused" (by decide)) (pe_glob (v := .ref _) rfl (hmgx "Refused" (by decide)) rfl) (fun _ h => h) hb_isinstance) (a_cons (e_isE 3 (hXc c hc) hz hf (hkit_ValueError c hc) (pe_bltn (v := .ty "ValueError") rfl hb_ValueError rfl rfl) (fun _ h => h) hb_isinstance) a_nil)))))
    (ss_one (s_ret (e_tup (a_cons e_str (a_cons (e_var 5) a_nil)))))))) hh_law_ask (roomH_of okc.room)))
theorem g_law_ask {P : Program} {w : World} {K : PySem.W.Frag} {mg : Str → Option Value} {base : Heap} {qu : Str} {f : Addr} {fd : FuncData} (GD_run_lot : GFn P w K mg base "run_lot" 2 4 FD_run_lot) (GK_run_lot : GFnK P w K mg base "run_lot" 2 ["turns"] 4 F_run_lot) (hb_isinstance : mg "isinstance" = none) (hkit : ∀ c ∈ (["BadLot"] : List Str), ∀ n ∈ K84.excs, PySem.W.kitOne K (.ref (He.ga K c)) (.ref (He.ga K n)) = some (subX c n)) (hmgx : ∀ n ∈ K84.excs, mg n = some (.ref (He.ga K n))) (hb_ValueError : mg "ValueError" = none) (hkit_ValueError : ∀ c ∈ (["BadLot"] : List Str), PySem.W.kitOne K (.ref (He.ga K c)) (.type "ValueError") = some true) (G_law_class_of : GFnH P w K mg base "_law_class_of" 3 1 F_law_class_of) (hx_TrialError : ∀ c ∈ (["BadLot"] : List Str), PySem.W.exmOne K (.ref (He.ga K c)) (.ref (He.ga K "TrialError")) = some true) (mg_TrialError : mg "TrialError" = some (.ref (He.ga K "TrialError"))) (hXc : ∀ c ∈ (["BadLot"] : List Str), ExcC K (He.ga K c)) (hh_law_ask : ∀ c a S d S2, hd_law_ask c S = some (d, S2) → ∃ env2, su_law_ask c a (hEnv 6 3 a) S = .ret d env2 S2) (F : FunD K "_law_ask" qu (defArgs st_law_ask) (defBody st_law_ask) (defScope st_law_ask) [] [] f fd) (hm : mg "_law_ask" = some (.ref f)) : GFn P w K mg base "_law_ask" 3 5 F_law_ask :=
  GFn.of (ps := ps_law_ask) F sc_law_ask hm (F.bindsN fun _ _ _ _ _ _ us hl => match us, hl with | [_, _, _], _ => rfl) (b_law_ask GD_run_lot GK_run_lot hb_isinstance hkit hmgx hb_ValueError hkit_ValueError G_law_class_of hx_TrialError mg_TrialError hXc hh_law_ask)
/-! law -/
def N_law : List Str := ["script", "store", "large", "plans", "k", "need", "row", "given", "kept_given", "dues", "order", "how", "one", "many", "told", "short", "rows"]
def ps_law : List Str := ["script"]
abbrev st_law : Stmt := top 56
theorem sc_law : FnScope N_law ps_law (defScope st_law) := ⟨rfl, rfl, rfl, by decide +kernel, rfl, by decide +kernel, by decide +kernel⟩
def ms_law : MS := (sSeq (sSet 1 (mRef (nCall 1 F_law_draws (aCons (mVar 0) aNil))))
  (sSeq (sSet 2 (mOp2 dEq (oVal (mCall 2 F_law_take (aCons (mVar 1) (aCons (mCst (.int 16)) aNil)))) (oVal (mCst (.int 0)))))
  (sSeq (sSetN 3 (nLst aNil))
  (sSeq (sFor (iR1 (aoCons (oVal (mOp2 dAdd (oVal (mCst (.int 1))) (oVal (mCall 2 F_law_take (aCons (mVar 1) (aCons (mCst (.int 3)) aNil)))))) aoNil)) (gNm 4) (sSeq (sSet 13 (mCall 2 F_law_take (aCons (mVar 1) (aCons (mCst (.int 5)) aNil))))
  (sSeq (sIf (bTru (oLoc 2)) (sSet 13 (mCst (.int 12))) sNext)
  (sExpr (mMut fApp (oLoc 3) (aCons (nCall 3 F_law_plan_rows (aCons (mVar 1) (aCons (mVar 13) (aCons (mOp2 dEq (oVal (mCall 2 F_law_take (aCons (mVar 1) (aCons (mCst (.int 3)) aNil)))) (oVal (mCst (.int 0)))) aNil)))) aNil))))))
  (sSeq (sIf (bAnd (bOf (mOp2 dGt (oVal (mB fLen (aoCons (oLoc 3) aoNil))) (oVal (mCst (.int 1))))) (bOf (mOp2 dEq (oVal (mCall 2 F_law_take (aCons (mVar 1) (aCons (mCst (.int 5)) aNil)))) (oVal (mCst (.int 0)))))) (sPut (oLoc 3) (mCst (.int 1)) (mOp2 dIx (oLoc 3) (oVal (mCst (.int 0))))) sNext)
  (sSeq (sSet 5 (mB fSum (aoCons (oVal (nLc (iSeq (mVar 3)) (gNm 16) [16] bYes (mB fLen (aoCons (oLoc 16) aoNil)))) aoNil)))
  (sSeq (sSet 6 (mCall 2 F_law_things (aCons (mVar 1) (aCons (mOp2 dAdd (oLoc 5) (oVal (mCall 2 F_law_take (aCons (mVar 1) (aCons (mCst (.int 5)) aNil))))) aNil))))
  (sSeq (sSetN 7 (nLc (iSeq (mVar 3)) (gNm 16) [16] bYes (nMake 1 F_Plan_init (aCons (nLc (iSeq (mVar 16)) (gNm 12) [12] bYes (mB fList (aoCons (oLoc 12) aoNil))) aNil))))
  (sSeq (sIf (bAnd (bOf (mOp2 dGt (oVal (mB fLen (aoCons (oLoc 3) aoNil))) (oVal (mCst (.int 1))))) (bOf (mOp2 dEq (oVal (mOp2 dIx (oLoc 3) (oVal (mCst (.int 1))))) (oVal (mOp2 dIx (oLoc 3) (oVal (mCst (.int 0)))))))) (sPut (oLoc 7) (mCst (.int 1)) (mOp2 dIx (oLoc 7) (oVal (mCst (.int 0))))) sNext)
  (sSeq (sSet 8 (mB fList (aoCons (oLoc 7) aoNil)))
  (sSeq (sSet 9 (nLst (aCons (nCall 2 F_law_in_a_row (aCons (mVar 3) (aCons (mVar 6) aNil))) (aCons (nCall 2 F_law_in_a_row (aCons (mVar 3) (aCons (mVar 6) aNil))) (aCons (nCall 2 F_law_by_turns (aCons (mVar 3) (aCons (mVar 6) aNil))) aNil)))))
  (sSeq (sIf (bOr (bNot (bTru (oVal (mTx fStarts (mVar 6) (oVal (mTx fJoin (mCst (.str "")) (oVal (mOp2 dIx (oLoc 9) (oVal (mCst (.int 0))))))))))) (bNot (bTru (oVal (mCall 2 F_law_dealt (aCons (mOp2 dIx (oLoc 9) (oVal (mCst (.int 2)))) (aCons (mVar 6) aNil))))))) (sRet (mCst (.bl false))) sNext)
  (sSeq (sSet 10 (nCall 2 F_law_shuffled (aCons (mVar 1) (aCons (nLst (aCons (mCst (.int 0)) (aCons (mCst (.int 1)) (aCons (mCst (.int 2)) (aCons (mCst (.int 0)) (aCons (mCst (.int 2)) aNil)))))) aNil))))
  (sSeq (sFor (iSeq (mVar 10)) (gNm 11) (sSeq (sSet 14 (mCall 3 F_law_ask (aCons (mVar 7) (aCons (mVar 6) (aCons (mVar 11) aNil)))))
  (sSeq (sIf (bNot (bTru (oVal (mCall 2 (F_law_matches 5) (aCons (mVar 14) (aCons (mTup (aCons (mCst (.str "told")) (aCons (mOp2 dIx (oLoc 9) (oLoc 11)) aNil))) aNil)))))) (sRet (mCst (.bl false))) sNext)
  (sSeq (sExpr (mMut fApp (oVal (mOp2 dIx (oLoc 14) (oVal (mCst (.int 1))))) (aCons (mCst (.str "g")) aNil)))
  (sPut (oVal (mOp2 dIx (oLoc 14) (oVal (mCst (.int 1))))) (mCst (.int 0)) (mCst (.str "x")))))))
  (sSeq (sIf (bOf (mOp2 dGt (oLoc 5) (oVal (mCst (.int 0))))) (sFor (iSeq (nLst (aCons (mSl (oLoc 6) pNone (pSome (mOp2 iSub (oLoc 5) (oVal (mCst (.int 1)))))) (aCons (mSl (oLoc 6) pNone (pSome (mCall 2 F_law_take (aCons (mVar 1) (aCons (mVar 5) aNil))))) (aCons (mCst (.str "")) aNil))))) (gNm 15) (sFor (iR1 (aoCons (oVal (mCst (.int 3))) aoNil)) (gNm 11) (sIf (bNot (bTru (oVal (mCall 2 (F_law_matches 5) (aCons (mCall 3 F_law_ask (aCons (mVar 7) (aCons (mVar 15) (aCons (mVar 11) aNil)))) (aCons (mTup (aCons (mCst (.str "raised")) (aCons (mCst (.str "BadLot")) aNil))) aNil)))))) (sRet (mCst (.bl false))) sNext))) sNext)
  (sSeq (sSet 12 (mCall 3 F_law_ask (aCons (nLst (aCons (nMake 1 F_Plan_init (aCons (nLst (aCons (nLst (aCons (mCst (.int 0)) aNil)) (aCons (nLst (aCons (mCst (.int 1)) aNil)) aNil))) aNil)) (aCons (nMake 1 F_Plan_init (aCons (nLst (aCons (nLst (aCons (mCst (.int 0)) aNil)) aNil)) aNil)) aNil))) (aCons (mCst (.str "gbb")) (aCons (mCst (.int 2)) aNil)))))
  (sSeq (sIf (bNot (bTru (oVal (mCall 2 (F_law_matches 5) (aCons (mVar 12) (aCons (mTup (aCons (mCst (.str "told")) (aCons (nLst (aCons (mCst (.str "gb")) (aCons (mCst (.str "b")) aNil))) aNil))) aNil)))))) (sRet (mCst (.bl false))) sNext)
  (sSeq (sFor (iR1 (aoCons (oVal (mB fLen (aoCons (oLoc 3) aoNil))) aoNil)) (gNm 4) (sIf (bNot (bTru (oVal (mCall 2 (F_law_matches 5) (aCons (mMeth0 "Plan" "rows" 1 F_Plan_rows (mOp2 dIx (oLoc 7) (oLoc 4))) (aCons (mOp2 dIx (oLoc 3) (oLoc 4)) aNil)))))) (sRet (mCst (.bl false))) sNext))
  (sRet (vAnd (mOp2 dEq (oVal (mB fLen (aoCons (oLoc 7) aoNil))) (oVal (mB fLen (aoCons (oLoc 8) aoNil)))) (mCall 2 (F_law_matches 5) (aCons (mCall 3 F_law_ask (aCons (mVar 7) (aCons (mSl (oLoc 6) pNone (pSome (mVar 5))) (aCons (mCst (.int 0)) aNil)))) (aCons (mTup (aCons (mCst (.str "told")) (aCons (mOp2 dIx (oLoc 9) (oVal (mCst (.int 0)))) aNil))) aNil)))))))))))))))))))))))
def F_law : Fn := fnOf 17 ms_law
theorem b_law {P : Program} {w : World} {K : PySem.W.Frag} {mg : Str → Option Value} {base : Heap} (G_law_draws : GFn P w K mg base "_law_draws" 1 1 F_law_draws) (G_law_take : GFn P w K mg base "_law_take" 2 2 F_law_take) (hb_range : mg "range" = none) (G_law_plan_rows : GFn P w K mg base "_law_plan_rows" 3 3 F_law_plan_rows) (hb_len : mg "len" = none) (hb_sum : mg "sum" = none) (G_law_things : GFn P w K mg base "_law_things" 2 3 F_law_things) (hb_list : mg "list" = none) (GC_Plan : GMk P w K mg base "Plan" 1 2 F_Plan_init) (G_law_in_a_row : GFn P w K mg base "_law_in_a_row" 2 2 F_law_in_a_row) (G_law_by_turns : GFn P w K mg base "_law_by_turns" 2 2 F_law_by_turns) (G_law_dealt : GFn P w K mg base "_law_dealt" 2 1 F_law_dealt) (G_law_shuffled : GFn P w K mg base "_law_shuffled" 2 3 F_law_shuffled) (G_law_ask : GFn P w K mg base "_law_ask" 3 5 F_law_ask) (G_law_matches : GFn P w K mg base "_law_matches" 2 5 (F_law_matches 5)) (GM_Plan_rows : GMt P w K mg base "Plan" "rows" 1 1 F_Plan_rows) (X : Cx) (C : Vf.Ctx) (e1 : X.prog = P) (e2 : X.w = w) (e3 : X.mg = mg) (e4 : X.base = base) (e5 : X.K = K) (e6 : C.K = K) (e7 : X.N = N_law)
    (e8 : X.env.scope = defScope st_law) (e9 : X.fn = fun _ => true) (ok : Oks X C 5) : ESs X C (defBody st_law) ms_law := by
  obtain ⟨_, _, _, _, _, A, _, s0, H0, ⟨_, l, gl, cl, qu, fu, co, fr, bu⟩, ou, sk, ex, _, calm, pn, xe⟩ := X
  obtain ⟨_, wish⟩ := C
  dsimp only at e1 e2 e3 e4 e5 e6 e7 e8 e9
  subst e1 e2 e3 e4 e5 e6 e7 e8 e9
  have okc := ok.toOkc
  exact (ss_cons (s_set 1 okc.nd (e_ref (n_call G_law_draws okc (by decide) (a_cons (e_var 0) a_nil))))
    (ss_cons (s_set 2 okc.nd (e_cmp (op_eqA okc.room.units) od_eq (o_val (e_call G_law_take okc (by decide) (a_cons (e_var 1) (a_cons e_int a_nil)))) (o_val e_int)))
    (ss_cons (s_setN 3 okc.nd (n_lst a_nil))
    (ss_cons (s_for okc.calm ok.po (i_range1 hb_range (ao_cons (o_val (e_op op_addAll od_add (o_val e_int) (o_val (e_call G_law_take okc (by decide) (a_cons (e_var 1) (a_cons e_int a_nil)))))) ao_nil)) (g_name 4 okc.nd) (ss_cons (s_set 13 okc.nd (e_call G_law_take okc (by decide) (a_cons (e_var 1) (a_cons e_int a_nil))))
    (ss_cons (s_if (b_tru (o_loc 2)) (ss_one (s_set 13 okc.nd e_int)) ss_nil)
    (ss_one (s_expr (e_append rfl (o_loc 3) (a_cons (e_new (n_call G_law_plan_rows okc (by decide) (a_cons (e_var 1) (a_cons (e_var 13) (a_cons (e_cmp (op_eqA okc.room.units) od_eq (o_val (e_call G_law_take okc (by decide) (a_cons (e_var 1) (a_cons e_int a_nil)))) (o_val e_int)) a_nil))))) a_nil)))))))
    (ss_cons (s_if (b_w (w_and (b_cmp op_gt od_gt (o_val (e_callB (call_len.or call_lenD) cd_len hb_len rfl (ao_cons (o_loc 3) ao_nil))) (o_val e_int)) (w_and1 (b_cmp (op_eqA okc.room.units) od_eq (o_val (e_call G_law_take okc (by decide) (a_cons (e_var 1) (a_cons e_int a_nil)))) (o_val e_int))))) (ss_one (s_put okc (o_loc 3) e_int (e_ix ix_seq od_ix (o_loc 3) (o_val e_int)))) ss_nil)
    (ss_cons (s_set 5 okc.nd (e_callB (cr_sum okc.calm) cd_sum hb_sum rfl (ao_cons (o_val (e_new (n_lc okc.calm okc.nd [("rows", 16)] (by rfl) (i_seq (e_var 3)) (fun s H c cl fp => (g_name 16 (okc.blk s H _ _ fp).nd)) (fun s H c cl fp => ts_nil) (fun s H c cl fp => (e_callB (call_len.or call_lenD) cd_len hb_len rfl (ao_cons (o_loc 16) ao_nil)))))) ao_nil)))
    (ss_cons (s_set 6 okc.nd (e_call G_law_things okc (by decide) (a_cons (e_var 1) (a_cons (e_op op_addAll od_add (o_loc 5) (o_val (e_call G_law_take okc (by decide) (a_cons (e_var 1) (a_cons e_int a_nil))))) a_nil))))
    (ss_cons (s_setLcN 7 okc.calm okc.nd [("rows", 16)] (by rfl) rfl (i_seq (e_var 3)) (fun s H c cl fp => (g_name 16 (okc.blk s H _ _ fp).nd)) (fun s H c cl fp => ts_nil) (fun s H c cl fp => (e_new (n_make GC_Plan (okc.blk s H _ _ fp) (by decide) (a_cons (e_new (n_lc (okc.blk s H _ _ fp).calm (okc.blk s H _ _ fp).nd [("one", 12)] (by rfl) (i_seq (e_var 16)) (fun s2 H2 c2 cl2 fp2 => (g_name 12 ((okc.blk s H _ _ fp).blk s2 H2 _ _ fp2).nd)) (fun s2 H2 c2 cl2 fp2 => ts_nil) (fun s2 H2 c2 cl2 fp2 => (e_new (n_callTy call_list_of nd_list hb_list rfl (ao_cons (o_loc 12) ao_nil)))))) a_nil)))))
    (ss_cons (s_if (b_w (w_and (b_cmp op_gt od_gt (o_val (e_callB (call_len.or call_lenD) cd_len hb_len rfl (ao_cons (o_loc 3) ao_nil))) (o_val e_int)) (w_and1 (b_cmp (op_eqA okc.room.units) od_eq (o_val (e_ix ix_seq od_ix (o_loc 3) (o_val e_int))) (o_val (e_ix ix_seq od_ix (o_loc 3) (o_val e_int))))))) (ss_one (s_put okc (o_loc 7) e_int (e_ix ix_seq od_ix (o_loc 7) (o_val e_int)))) ss_nil)
    (ss_cons (s_set 8 okc.nd (e_new (n_callTy call_list_of nd_list hb_list rfl (ao_cons (o_loc 7) ao_nil))))
    (ss_cons (s_set 9 okc.nd (e_new (n_lst (a_cons (e_new (n_call G_law_in_a_row okc (by decide) (a_cons (e_var 3) (a_cons (e_var 6) a_nil)))) (a_cons (e_new (n_call G_law_in_a_row okc (by decide) (a_cons (e_var 3) (a_cons (e_var 6) a_nil)))) (a_cons (e_new (n_call G_law_by_turns okc (by decide) (a_cons (e_var 3) (a_cons (e_var 6) a_nil)))) a_nil))))))
    (ss_cons (s_if (b_w (w_or (b_not (b_tru (o_val (e_starts (e_var 6) (o_val (e_join rfl e_str (o_val (e_ix ix_seq od_ix (o_loc 9) (o_val e_int))))))))) (w_or1 (b_not (b_tru (o_val (e_call G_law_dealt okc (by decide) (a_cons (e_ix ix_seq od_ix (o_loc 9) (o_val e_int)) (a_cons (e_var 6) a_nil))))))))) (ss_one (s_ret e_bl)) ss_nil)
    (ss_cons (s_set 10 okc.nd (e_new (n_call G_law_shuffled okc (by decide) (a_cons (e_var 1) (a_cons (e_new (n_lst (a_cons e_int (a_cons e_int (a_cons e_int (a_cons e_int (a_cons e_int a_nil))))))) a_nil)))))
    (ss_cons (s_for okc.calm ok.po (i_seq (e_var 10)) (g_name 11 okc.nd) (ss_cons (s_set 14 okc.nd (e_call G_law_ask okc (by decide) (a_cons (e_var 7) (a_cons (e_var 6) (a_cons (e_var 11) a_nil)))))
    (ss_cons (s_if (b_not (b_tru (o_val (e_call G_law_matches okc (by decide) (a_cons (e_var 14) (a_cons (e_tup (a_cons e_str (a_cons (e_ix ix_seq od_ix (o_loc 9) (o_loc 11)) a_nil))) a_nil)))))) (ss_one (s_ret e_bl)) ss_nil)
    (ss_cons (s_expr (e_append rfl (o_val (e_ix ix_seq od_ix (o_loc 14) (o_val e_int))) (a_cons e_str a_nil)))
    (ss_one (s_put okc (o_val (e_ix ix_seq od_ix (o_loc 14) (o_val e_int))) e_int e_str))))))
    (ss_cons (s_if (b_cmp op_gt od_gt (o_loc 5) (o_val e_int)) (ss_one (s_for okc.calm ok.po (i_seq (e_new (n_lst (a_cons (e_sl rfl (o_loc 6) p_none (p_some (e_op op_sub od_iSub (o_loc 5) (o_val e_int)))) (a_cons (e_sl rfl (o_loc 6) p_none (p_some (e_call G_law_take okc (by decide) (a_cons (e_var 1) (a_cons (e_var 5) a_nil))))) (a_cons e_str a_nil)))))) (g_name 15 okc.nd) (ss_one (s_for okc.calm ok.po (i_range1 hb_range (ao_cons (o_val e_int) ao_nil)) (g_name 11 okc.nd) (ss_one (s_if (b_not (b_tru (o_val (e_call G_law_matches okc (by decide) (a_cons (e_call G_law_ask okc (by decide) (a_cons (e_var 7) (a_cons (e_var 15) (a_cons (e_var 11) a_nil)))) (a_cons (e_tup (a_cons e_str (a_cons e_str a_nil))) a_nil)))))) (ss_one (s_ret e_bl)) ss_nil)))))) ss_nil)
    (ss_cons (s_set 12 okc.nd (e_call G_law_ask okc (by decide) (a_cons (e_new (n_lst (a_cons (e_new (n_make GC_Plan okc (by decide) (a_cons (e_new (n_lst (a_cons (e_new (n_lst (a_cons e_int a_nil))) (a_cons (e_new (n_lst (a_cons e_int a_nil))) a_nil)))) a_nil))) (a_cons (e_new (n_make GC_Plan okc (by decide) (a_cons (e_new (n_lst (a_cons (e_new (n_lst (a_cons e_int a_nil))) a_nil))) a_nil))) a_nil)))) (a_cons e_str (a_cons e_int a_nil)))))
    (ss_cons (s_if (b_not (b_tru (o_val (e_call G_law_matches okc (by decide) (a_cons (e_var 12) (a_cons (e_tup (a_cons e_str (a_cons (e_new (n_lst (a_cons e_str (a_cons e_str a_nil)))) a_nil))) a_nil)))))) (ss_one (s_ret e_bl)) ss_nil)
    (ss_cons (s_for okc.calm ok.po (i_range1 hb_range (ao_cons (o_val (e_callB (call_len.or call_lenD) cd_len hb_len rfl (ao_cons (o_loc 3) ao_nil))) ao_nil)) (g_name 4 okc.nd) (ss_one (s_if (b_not (b_tru (o_val (e_call G_law_matches okc (by decide) (a_cons (e_meth0 GM_Plan_rows okc (by decide) (e_ix ix_seq od_ix (o_loc 7) (o_loc 4))) (a_cons (e_ix ix_seq od_ix (o_loc 3) (o_loc 4)) a_nil)))))) (ss_one (s_ret e_bl)) ss_nil)))
    (ss_one (s_ret (v_and (e_cmp (op_eqA okc.room.units) od_eq (o_val (e_callB (call_len.or call_lenD) cd_len hb_len rfl (ao_cons (o_loc 7) ao_nil))) (o_val (e_callB (call_len.or call_lenD) cd_len hb_len rfl (ao_cons (o_loc 8) ao_nil)))) (v_one (e_call G_law_matches okc (by decide) (a_cons (e_call G_law_ask okc (by decide) (a_cons (e_var 7) (a_cons (e_sl rfl (o_loc 6) p_none (p_some (e_var 5))) (a_cons e_int a_nil)))) (a_cons (e_tup (a_cons e_str (a_cons (e_ix ix_seq od_ix (o_loc 9) (o_val e_int)) a_nil))) a_nil)))))))))))))))))))))))))
theorem g_law {P : Program} {w : World} {K : PySem.W.Frag} {mg : Str → Option Value} {base : Heap} {qu : Str} {f : Addr} {fd : FuncData} (G_law_draws : GFn P w K mg base "_law_draws" 1 1 F_law_draws) (G_law_take : GFn P w K mg base "_law_take" 2 2 F_law_take) (hb_range : mg "range" = none) (G_law_plan_rows : GFn P w K mg base "_law_plan_rows" 3 3 F_law_plan_rows) (hb_len : mg "len" = none) (hb_sum : mg "sum" = none) (G_law_things : GFn P w K mg base "_law_things" 2 3 F_law_things) (hb_list : mg "list" = none) (GC_Plan : GMk P w K mg base "Plan" 1 2 F_Plan_init) (G_law_in_a_row : GFn P w K mg base "_law_in_a_row" 2 2 F_law_in_a_row) (G_law_by_turns : GFn P w K mg base "_law_by_turns" 2 2 F_law_by_turns) (G_law_dealt : GFn P w K mg base "_law_dealt" 2 1 F_law_dealt) (G_law_shuffled : GFn P w K mg base "_law_shuffled" 2 3 F_law_shuffled) (G_law_ask : GFn P w K mg base "_law_ask" 3 5 F_law_ask) (G_law_matches : GFn P w K mg base "_law_matches" 2 5 (F_law_matches 5)) (GM_Plan_rows : GMt P w K mg base "Plan" "rows" 1 1 F_Plan_rows) (F : FunD K "law" qu (defArgs st_law) (defBody st_law) (defScope st_law) [] [] f fd) (hm : mg "law" = some (.ref f)) : GFn P w K mg base "law" 1 6 F_law :=
  GFn.of (ps := ps_law) F sc_law hm (F.bindsN fun _ _ _ _ _ _ us hl => match us, hl with | [_], _ => rfl) (b_law G_law_draws G_law_take hb_range G_law_plan_rows hb_len hb_sum G_law_things hb_list GC_Plan G_law_in_a_row G_law_by_turns G_law_dealt G_law_shuffled G_law_ask G_law_matches GM_Plan_rows)
end K84
namespace K84
open PySem PySem.Spec PyProof.Rows L2 L2H Vf
/-- the store of draws -/
def stD (is : List Int) (a r l t s : Int) : D := .dk [.inr "cells", .inr "at", .inr "rest", .inr "left", .inr "turn", .inr "seed"] [.lst (is.map .int), .int a, .int r, .int l, .int t, .int s]
section
variable {is : List Int} {a r l t s x : Int}
theorem g_cells : dGetD (stD is a r l t s) (.str "cells") = some (.lst (is.map .int)) := rfl
theorem g_at : dGetD (stD is a r l t s) (.str "at") = some (.int a) := rfl
theorem g_rest : dGetD (stD is a r l t s) (.str "rest") = some (.int r) := rfl
theorem g_left : dGetD (stD is a r l t s) (.str "left") = some (.int l) := rfl
theorem g_turn : dGetD (stD is a r l t s) (.str "turn") = some (.int t) := rfl
theorem g_seed : dGetD (stD is a r l t s) (.str "seed") = some (.int s) := rfl
theorem p_at : dSetD (stD is a r l t s) (.str "at") (.int x) = some (stD is x r l t s) := rfl
theorem p_rest : dSetD (stD is a r l t s) (.str "rest") (.int x) = some (stD is a x l t s) := rfl
theorem p_left : dSetD (stD is a r l t s) (.str "left") (.int x) = some (stD is a r x t s) := rfl
theorem p_turn : dSetD (stD is a r l t s) (.str "turn") (.int x) = some (stD is a r l x s) := rfl
end
theorem iOrd_get {lo : Int} {n i : Nat} {d : D} (h : (iOrd lo n)[i]? = some d) : d = .int (lo + i) ∧ i < n := by
  have hi := (List.getElem?_eq_some_iff.mp h).1
  have hl : (iOrd lo n).length = n := by simp [iOrd]
  rw [hl] at hi
  have e2 : (iOrd lo n)[i]? = some (D.int (lo + (i : Nat))) := by simp [iOrd, hi]
  rw [e2] at h; cases h
  exact ⟨rfl, hi⟩
/-- what the loop of mixed keeps -/
def mixI (number turn many : Int) (S0 : List D) (i : Nat) (env : List Slot) (S : List D) : Prop := S = S0 ∧ ∃ first value size x6 x7, env = [.val (.int number), .val (.int turn), .val (.int many), .val (.int first), .val (.int value), .val (.int size), x6, x7] ∧
  0 ≤ first ∧ first < 2 ^ 31 ∧ 0 ≤ value ∧ value < 2 ^ (30 * (i + 1)) ∧ 0 ≤ size ∧ size < 2 ^ (30 * (i + 1))
theorem pow30 (i : Nat) : (2 : Int) ^ (30 * (i + 1 + 1)) = 2 ^ (30 * (i + 1)) * 1073741824 := by
  have e : 30 * (i + 1 + 1) = 30 * (i + 1) + 30 := by omega
  rw [e, Int.pow_add]; rfl
theorem nat_lt {x : Int} {n : Nat} (h0 : 0 ≤ x) (h : x < 2 ^ n) : x.natAbs < 2 ^ n := by
  have e : ((2 ^ n : Nat) : Int) = (2 : Int) ^ n := by simp
  omega
theorem mixed_ok (S : List D) (number turn many : Int) (ht : 0 ≤ turn) (ht2 : turn < 2 ^ 100) (hm : 2 ≤ many) (hm2 : many < 2 ^ 8000) : ∃ v, F_law_mixed [.int number, .int turn, .int many] S = .ok (.int v) S ∧ 0 ≤ v ∧ v < many := by
  show ∃ v, fnOf 8 ms_law_mixed [.int number, .int turn, .int many] S = .ok (.int v) S ∧ 0 ≤ v ∧ v < many
  have nt := nat_lt ht ht2
  have nm := nat_lt (by omega) hm2
  have q1 := Int.emod_nonneg number (show (2147483647 : Int) ≠ 0 by decide)
  have q2 := Int.emod_lt_of_pos number (show (0 : Int) < 2147483647 by decide)
  have h1 : dMod (.int number) (.int 2147483647) = some (.int (number % 2147483647)) := mod_ok (by decide)
  have h2 : dMul (.int (number % 2147483647)) (.int 48271) = some (.int (number % 2147483647 * 48271)) := mul_ok (n := 31) (m := 16) (by omega) (by decide) (by decide)
  have h3 : dMul (.int turn) (.int 69621) = some (.int (turn * 69621)) := mul_ok (m := 17) nt (by decide) (by decide)
  obtain ⟨f0, hf0⟩ : ∃ f0, f0 = (number % 2147483647 * 48271 + turn * 69621 + 101) % 2147483647 := ⟨_, rfl⟩
  have h4 : dMod (.int (number % 2147483647 * 48271 + turn * 69621 + 101)) (.int 2147483647) = some (.int f0) := by rw [hf0]; exact mod_ok (by decide)
  have f1 : 0 ≤ f0 := by rw [hf0]; exact Int.emod_nonneg _ (by decide)
  have f2 : f0 < 2 ^ 31 := by rw [hf0]; exact Int.lt_trans (Int.emod_lt_of_pos _ (by decide)) (by decide)
  have h5 : dMul (.int many) (.int 1024) = some (.int (many * 1024)) := mul_ok (m := 11) nm (by decide) (by decide)
  have h6 : dMul (.int turn) (.int 16807) = some (.int (turn * 16807)) := mul_ok (m := 15) nt (by decide) (by decide)
  simp only [q_mVar, q_mCst, q_oVal, q_oLoc, q_mOp2, q_bOf, q_bTru, q_bNot, q_bAnd, q_bOr, q_vAnd, q_vOr, q_vNot, q_mIte, q_mOr, q_aNil, q_aCons, q_aoNil, q_aoCons, q_mTup, q_nLst, q_iSeq, q_iSign, q_iR1, q_iR2, q_iEnumM, q_iRevM, q_iZipM, q_sNext, q_sSeq, q_sExpr, q_sRet, q_sRetN, q_sRetL, q_sIf, q_sSet, q_sSetN, q_sAsg, q_sFor, q_nLc, q_bYes, q_mCall, q_nCall, q_mMeth, q_mMeth0, q_mFld, q_mProp, q_nMake, q_pNone, q_pSome, q_mSl, q_mB, q_mRef, q_mMut, q_mMut0, q_mDGet, q_sPut, q_sFldP, q_sAug, q_mTx, q_mIsT, q_mInK, q_sRaise0, q_mExc, q_sTry, q_iScr, q_nDict, q_mNeg, q_mCallK, q_nCallK, Res.toS, Res.bind, Res.lift, Res.calm, resO, resL, CRes.toR, CRes.toN, CRes.toB, CRes.quiet, cellO, setE, setS, dLt, dLe, dGt, dGe, dAdd, iSub, dAddA, dEq, dNe, eqB, sEq, fInt, gNm, gTp, gsCons, gsNil, dTru, dIsN, dNotN, locAt, isLst, mutK, insC, List.getElem?_cons_zero, List.getElem?_cons_succ, List.set_cons_zero, List.set_cons_succ, List.length_cons, List.length_nil, List.length_set, Option.map_some, Option.map_none, Option.bind_some, if_true, if_false, decide_eq_true_eq, decide_true, decide_false, Nat.zero_lt_succ, Nat.reduceLT, Nat.reduceAdd, and_true, true_and, and_self, Bool.false_eq_true, List.map_cons, List.map_nil, List.cons_append, List.nil_append, List.replicate_succ, List.replicate_zero, Nat.reduceSub, List.append_nil, reduceCtorEq, reduceIte, ne_eq, not_false_eq_true, not_true_eq_false, List.tail_cons, List.head?_cons, sz_le, sz_lt, Nat.reduceLeDiff, Nat.zero_le, ok62_int, Int.reduceLE, Int.reduceNeg, Int.reduceToNat, Bool.and_self, fnOf, ms_law_mixed, env0, h1, h2, h3, h4, Int.reduceLE, Int.reduceLT, Int.reduceNeg, Int.reducePow, Int.reduceToNat]
  generalize hL : loopF _ _ _ _ _ = L
  obtain ⟨env', S', rfl, eS, first, value, size, x6, x7, ee, _, _, v1, _⟩ : ∃ env' S', L = .next env' S' ∧ mixI number turn many S (0 + (iOrd 0 24).length) env' S' := by
    rw [← hL]
    refine loopF_run _ _ 0 _ _ ⟨rfl, f0, 0, 1, .none, .none, rfl, f1, f2, by decide, by decide, by decide, by decide⟩ fun i d env S1 hd hI => ?_
    obtain ⟨rfl, first, value, size, x6, x7, rfl, a1, a2, a3, a4, a5, a6⟩ := hI
    obtain ⟨rfl, hi⟩ := iOrd_get hd
    rw [Nat.zero_add] at a4 a6
    refine ⟨[.val (.int number), .val (.int turn), .val (.int many), .val (.int first), .val (.int value), .val (.int size), .val (.int (0 + (i : Int))), x7], rfl, ?_⟩
    by_cases hs : size < many * 1024
    · have k1 : dMul (.int first) (.int first) = some (.int (first * first)) := mul_ok (n := 31) (m := 31) (by omega) (by omega) (by decide)
      have k2 : dFdiv (.int first) (.int 5) = some (.int (first / 5)) := fdiv_ok (n := 3) (by decide) (by decide) (by decide)
      have k3 : dMul (.int (0 + (i : Int))) (.int 7919) = some (.int ((0 + (i : Int)) * 7919)) := mul_ok (n := 5) (m := 13) (by omega) (by decide) (by decide)
      obtain ⟨g, hg⟩ : ∃ g, g = (first * first + first / 5 + turn * 16807 + (0 + (i : Int)) * 7919 + 13) % 2147483629 := ⟨_, rfl⟩
      have k4 : dMod (.int (first * first + first / 5 + turn * 16807 + (0 + (i : Int)) * 7919 + 13)) (.int 2147483629) = some (.int g) := by rw [hg]; exact mod_ok (by decide)
      have g1 : 0 ≤ g := by rw [hg]; exact Int.emod_nonneg _ (by decide)
      have g2 : g < 2 ^ 31 := by rw [hg]; exact Int.lt_trans (Int.emod_lt_of_pos _ (by decide)) (by decide)
      have k5 : dMul (.int g) (.int 69621) = some (.int (g * 69621)) := mul_ok (n := 31) (m := 17) (by omega) (by decide) (by decide)
      have k6 : dFdiv (.int g) (.int 65537) = some (.int (g / 65537)) := fdiv_ok (n := 17) (by decide) (by decide) (by decide)
      obtain ⟨w, hw⟩ : ∃ w, w = (g * 69621 + g / 65537 + 7) % 2147483587 := ⟨_, rfl⟩
      have k7 : dMod (.int (g * 69621 + g / 65537 + 7)) (.int 2147483587) = some (.int w) := by rw [hw]; exact mod_ok (by decide)
      have w1 : 0 ≤ w := by rw [hw]; exact Int.emod_nonneg _ (by decide)
      have w2 : w < 2147483587 := by rw [hw]; exact Int.emod_lt_of_pos _ (by decide)
      have k8 : dMul (.int value) (.int 268435449) = some (.int (value * 268435449)) := mul_ok (n := 30 * (i + 1)) (m := 28) (nat_lt a3 a4) (by decide) (by omega)
      have k9 : dFdiv (.int w) (.int 8) = some (.int (w / 8)) := fdiv_ok (n := 4) (by decide) (by decide) (by decide)
      have k10 : dMul (.int size) (.int 268435449) = some (.int (size * 268435449)) := mul_ok (n := 30 * (i + 1)) (m := 28) (nat_lt a5 a6) (by decide) (by omega)
      have p0 : (0 : Int) < 2 ^ (30 * (i + 1)) := Int.pow_pos (by decide)
      refine ⟨_, _, .inl (by simp only [q_mVar, q_mCst, q_oVal, q_oLoc, q_mOp2, q_bOf, q_bTru, q_bNot, q_bAnd, q_bOr, q_vAnd, q_vOr, q_vNot, q_mIte, q_mOr, q_aNil, q_aCons, q_aoNil, q_aoCons, q_mTup, q_nLst, q_iSeq, q_iSign, q_iR1, q_iR2, q_iEnumM, q_iRevM, q_iZipM, q_sNext, q_sSeq, q_sExpr, q_sRet, q_sRetN, q_sRetL, q_sIf, q_sSet, q_sSetN, q_sAsg, q_sFor, q_nLc, q_bYes, q_mCall, q_nCall, q_mMeth, q_mMeth0, q_mFld, q_mProp, q_nMake, q_pNone, q_pSome, q_mSl, q_mB, q_mRef, q_mMut, q_mMut0, q_mDGet, q_sPut, q_sFldP, q_sAug, q_mTx, q_mIsT, q_mInK, q_sRaise0, q_mExc, q_sTry, q_iScr, q_nDict, q_mNeg, q_mCallK, q_nCallK, Res.toS, Res.bind, Res.lift, Res.calm, resO, resL, CRes.toR, CRes.toN, CRes.toB, CRes.quiet, cellO, setE, setS, dLt, dLe, dGt, dGe, dAdd, iSub, dAddA, dEq, dNe, eqB, sEq, fInt, gNm, gTp, gsCons, gsNil, dTru, dIsN, dNotN, locAt, isLst, mutK, insC, List.getElem?_cons_zero, List.getElem?_cons_succ, List.set_cons_zero, List.set_cons_succ, List.length_cons, List.length_nil, List.length_set, Option.map_some, Option.map_none, Option.bind_some, if_true, if_false, decide_eq_true_eq, decide_true, decide_false, Nat.zero_lt_succ, Nat.reduceLT, Nat.reduceAdd, and_true, true_and, and_self, Bool.false_eq_true, List.map_cons, List.map_nil, List.cons_append, List.nil_append, List.replicate_succ, List.replicate_zero, Nat.reduceSub, List.append_nil, reduceCtorEq, reduceIte, ne_eq, not_false_eq_true, not_true_eq_false, List.tail_cons, List.head?_cons, sz_le, sz_lt, Nat.reduceLeDiff, Nat.zero_le, ok62_int, Int.reduceLE, Int.reduceNeg, Int.reduceToNat, Bool.and_self, h5, h6, hs, k1, k2, k3, k4, k5, k6, k7, k8, k9, k10] <;> rfl), rfl, g, value * 268435449 + w / 8, size * 268435449, _, _, rfl, g1, g2, by omega, ?_, by omega, ?_⟩
      · rw [Nat.zero_add, pow30]; omega
      · rw [Nat.zero_add, pow30]; omega
    · refine ⟨_, _, .inl (by simp only [q_mVar, q_mCst, q_oVal, q_oLoc, q_mOp2, q_bOf, q_bTru, q_bNot, q_bAnd, q_bOr, q_vAnd, q_vOr, q_vNot, q_mIte, q_mOr, q_aNil, q_aCons, q_aoNil, q_aoCons, q_mTup, q_nLst, q_iSeq, q_iSign, q_iR1, q_iR2, q_iEnumM, q_iRevM, q_iZipM, q_sNext, q_sSeq, q_sExpr, q_sRet, q_sRetN, q_sRetL, q_sIf, q_sSet, q_sSetN, q_sAsg, q_sFor, q_nLc, q_bYes, q_mCall, q_nCall, q_mMeth, q_mMeth0, q_mFld, q_mProp, q_nMake, q_pNone, q_pSome, q_mSl, q_mB, q_mRef, q_mMut, q_mMut0, q_mDGet, q_sPut, q_sFldP, q_sAug, q_mTx, q_mIsT, q_mInK, q_sRaise0, q_mExc, q_sTry, q_iScr, q_nDict, q_mNeg, q_mCallK, q_nCallK, Res.toS, Res.bind, Res.lift, Res.calm, resO, resL, CRes.toR, CRes.toN, CRes.toB, CRes.quiet, cellO, setE, setS, dLt, dLe, dGt, dGe, dAdd, iSub, dAddA, dEq, dNe, eqB, sEq, fInt, gNm, gTp, gsCons, gsNil, dTru, dIsN, dNotN, locAt, isLst, mutK, insC, List.getElem?_cons_zero, List.getElem?_cons_succ, List.set_cons_zero, List.set_cons_succ, List.length_cons, List.length_nil, List.length_set, Option.map_some, Option.map_none, Option.bind_some, if_true, if_false, decide_eq_true_eq, decide_true, decide_false, Nat.zero_lt_succ, Nat.reduceLT, Nat.reduceAdd, and_true, true_and, and_self, Bool.false_eq_true, List.map_cons, List.map_nil, List.cons_append, List.nil_append, List.replicate_succ, List.replicate_zero, Nat.reduceSub, List.append_nil, reduceCtorEq, reduceIte, ne_eq, not_false_eq_true, not_true_eq_false, List.tail_cons, List.head?_cons, sz_le, sz_lt, Nat.reduceLeDiff, Nat.zero_le, ok62_int, Int.reduceLE, Int.reduceNeg, Int.reduceToNat, Bool.and_self, h5, hs] <;> rfl), rfl, first, value, size, _, _, rfl, a1, a2, a3, ?_, a5, ?_⟩
      · rw [Nat.zero_add, pow30]; omega
      · rw [Nat.zero_add, pow30]; omega
  subst eS ee
  have h7 : dMod (.int value) (.int many) = some (.int (value % many)) := mod_ok (by omega)
  simp only [q_mVar, q_mCst, q_oVal, q_oLoc, q_mOp2, q_bOf, q_bTru, q_bNot, q_bAnd, q_bOr, q_vAnd, q_vOr, q_vNot, q_mIte, q_mOr, q_aNil, q_aCons, q_aoNil, q_aoCons, q_mTup, q_nLst, q_iSeq, q_iSign, q_iR1, q_iR2, q_iEnumM, q_iRevM, q_iZipM, q_sNext, q_sSeq, q_sExpr, q_sRet, q_sRetN, q_sRetL, q_sIf, q_sSet, q_sSetN, q_sAsg, q_sFor, q_nLc, q_bYes, q_mCall, q_nCall, q_mMeth, q_mMeth0, q_mFld, q_mProp, q_nMake, q_pNone, q_pSome, q_mSl, q_mB, q_mRef, q_mMut, q_mMut0, q_mDGet, q_sPut, q_sFldP, q_sAug, q_mTx, q_mIsT, q_mInK, q_sRaise0, q_mExc, q_sTry, q_iScr, q_nDict, q_mNeg, q_mCallK, q_nCallK, Res.toS, Res.bind, Res.lift, Res.calm, resO, resL, CRes.toR, CRes.toN, CRes.toB, CRes.quiet, cellO, setE, setS, dLt, dLe, dGt, dGe, dAdd, iSub, dAddA, dEq, dNe, eqB, sEq, fInt, gNm, gTp, gsCons, gsNil, dTru, dIsN, dNotN, locAt, isLst, mutK, insC, List.getElem?_cons_zero, List.getElem?_cons_succ, List.set_cons_zero, List.set_cons_succ, List.length_cons, List.length_nil, List.length_set, Option.map_some, Option.map_none, Option.bind_some, if_true, if_false, decide_eq_true_eq, decide_true, decide_false, Nat.zero_lt_succ, Nat.reduceLT, Nat.reduceAdd, and_true, true_and, and_self, Bool.false_eq_true, List.map_cons, List.map_nil, List.cons_append, List.nil_append, List.replicate_succ, List.replicate_zero, Nat.reduceSub, List.append_nil, reduceCtorEq, reduceIte, ne_eq, not_false_eq_true, not_true_eq_false, List.tail_cons, List.head?_cons, sz_le, sz_lt, Nat.reduceLeDiff, Nat.zero_le, ok62_int, Int.reduceLE, Int.reduceNeg, Int.reduceToNat, Bool.and_self, h7]
  exact ⟨_, rfl, Int.emod_nonneg _ (by omega), Int.emod_lt_of_pos _ (by omega)⟩
/-! the store of draws -/
theorem ix_at {xs : List D} {i : Int} {x : D} (h0 : 0 ≤ i) (h : xs[i.toNat]? = some x) : dIx (.lst xs) (.int i) = some x := by
  have h1 := (List.getElem?_eq_some_iff.mp h).1
  show (ixN xs.length i).bind (fun j => xs[j]?) = _
  unfold ixN
  rw [if_pos h0, if_pos (by omega)]
  exact h
theorem len_lst {xs : List D} : fLen [.lst xs] = some (.int xs.length) := rfl
def SOk (n : Nat) (d : D) : Prop := ∃ is a r l t s, d = stD is a r l t s ∧ is.length ≤ 63 ∧ 0 ≤ a ∧ a ≤ is.length ∧ 0 ≤ r ∧ 0 ≤ l ∧ (0 < l → 1 ≤ a) ∧ 0 ≤ t ∧ t ≤ n
theorem SOk.mono {n m : Nat} {d : D} (h : SOk n d) (hl : n ≤ m) : SOk m d := by
  obtain ⟨is, a, r, l, t, s, e, h1, h2, h3, h4, h5, h6, h7, h8⟩ := h
  exact ⟨is, a, r, l, t, s, e, h1, h2, h3, h4, h5, h6, h7, by omega⟩
def openI (is : List Int) (t s w : Int) (R : List D) (i : Nat) (env : List Slot) (S : List D) : Prop := ∃ a r l x3 x4, env = [.val (.ref 0), .val (.int w), .val (.lst (is.map .int)), x3, x4] ∧ S = stD is a r l t s :: R ∧ 0 ≤ a ∧ a ≤ is.length ∧ 0 ≤ r ∧ 0 ≤ l ∧ (0 < l → 1 ≤ a)
theorem mul_big {a b : Int} {n m : Nat} (h : 0 < a ∧ a < 2 ^ n) (k : 0 < b ∧ b < 2 ^ m) (hl : n + m < 1000000) : dMul (.int a) (.int b) = some (.int (a * b)) ∧ 0 < a * b ∧ a * b < 2 ^ (n + m) := by
  refine ⟨mul_ok (nat_lt (Int.le_of_lt h.1) h.2) (nat_lt (Int.le_of_lt k.1) k.2) hl, Int.mul_pos h.1 k.1, ?_⟩
  rw [Int.pow_add]
  exact Int.mul_lt_mul h.2 (Int.le_of_lt k.2) k.1 (Int.le_of_lt (Int.pow_pos (by decide)))
theorem opened_ok {n : Nat} {st : D} (R : List D) (h : SOk n st) : ∃ st', F_law_opened [.ref 0] (st :: R) = .ok .non (st' :: R) ∧ SOk n st' := by
  obtain ⟨is, a, r, l, t, s, rfl, h1, h2, h3, h4, h5, h6, h7, h8⟩ := h
  show ∃ st', fnOf 5 ms_law_opened [.ref 0] (stD is a r l t s :: R) = .ok .non (st' :: R) ∧ SOk n st'
  have q1 : dPow (.int 10) (.int 64) = some (.int (10 ^ 64)) := rfl
  have q0 : (0 : Int) < 10 ^ 64 ∧ (10 : Int) ^ 64 < 2 ^ 213 := by decide
  have q1b : dPow (.int 10) (.int 18) = some (.int (10 ^ 18)) := rfl
  generalize (10 : Int) ^ 64 = w0 at q1 q0
  obtain ⟨q2, b2⟩ := mul_big q0 q0 (by decide)
  obtain ⟨q3, b3⟩ := mul_big b2 q0 (by decide)
  generalize w0 * w0 * w0 = w1 at q3 b3
  obtain ⟨q4, b4⟩ := mul_big b3 b3 (by decide)
  obtain ⟨q5, b5⟩ := mul_big b4 b3 (by decide)
  obtain ⟨q6, b6⟩ := mul_big b5 b3 (by decide)
  generalize w1 * w1 * w1 * w1 = w at q6 b6
  have hln : ((is.map D.int).length : Int) = is.length := by rw [List.length_map]
  have hr : (Ok62 a && Ok62 ((is.map D.int).length : Int)) = true := by rw [hln, ok62_int (by omega) (by omega), ok62_int (by omega) (by omega)]; rfl
  simp only [q_mVar, q_mCst, q_oVal, q_oLoc, q_mOp2, q_bOf, q_bTru, q_bNot, q_bAnd, q_bOr, q_vAnd, q_vOr, q_vNot, q_mIte, q_mOr, q_aNil, q_aCons, q_aoNil, q_aoCons, q_mTup, q_nLst, q_iSeq, q_iSign, q_iR1, q_iR2, q_iEnumM, q_iRevM, q_iZipM, q_sNext, q_sSeq, q_sExpr, q_sRet, q_sRetN, q_sRetL, q_sIf, q_sSet, q_sSetN, q_sAsg, q_sFor, q_nLc, q_bYes, q_mCall, q_nCall, q_mMeth, q_mMeth0, q_mFld, q_mProp, q_nMake, q_pNone, q_pSome, q_mSl, q_mB, q_mRef, q_mMut, q_mMut0, q_mDGet, q_sPut, q_sFldP, q_sAug, q_mTx, q_mIsT, q_mInK, q_sRaise0, q_mExc, q_sTry, q_iScr, q_nDict, q_mNeg, q_mCallK, q_nCallK, Res.toS, Res.bind, Res.lift, Res.calm, resO, resL, CRes.toR, CRes.toN, CRes.toB, CRes.quiet, cellO, setE, setS, dLt, dLe, dGt, dGe, dAdd, iSub, dAddA, dEq, dNe, eqB, sEq, fInt, gNm, gTp, gsCons, gsNil, dTru, dIsN, dNotN, locAt, isLst, mutK, insC, List.getElem?_cons_zero, List.getElem?_cons_succ, List.set_cons_zero, List.set_cons_succ, List.length_cons, List.length_nil, List.length_set, Option.map_some, Option.map_none, Option.bind_some, if_true, if_false, decide_eq_true_eq, decide_true, decide_false, Nat.zero_lt_succ, Nat.reduceLT, Nat.reduceAdd, and_true, true_and, and_self, Bool.false_eq_true, List.map_cons, List.map_nil, List.cons_append, List.nil_append, List.replicate_succ, List.replicate_zero, Nat.reduceSub, List.append_nil, reduceCtorEq, reduceIte, ne_eq, not_false_eq_true, not_true_eq_false, List.tail_cons, List.head?_cons, sz_le, sz_lt, Nat.reduceLeDiff, Nat.zero_le, ok62_int, Int.reduceLE, Int.reduceNeg, Int.reduceToNat, Bool.and_self, fnOf, ms_law_opened, env0, q1, q2, q3, q4, q5, q6, g_cells, g_at, len_lst]
  rw [if_pos hr]
  dsimp only
  generalize hL : loopF _ _ _ _ _ = L
  obtain ⟨env', S', rfl, a', r', l', x3, x4, rfl, rfl, k1, k2, k3, k4, k5⟩ : ∃ env' S', L = .next env' S' ∧ openI is t s w R (0 + (iOrd a (((is.map D.int).length : Int) - a).toNat).length) env' S' := by
    rw [← hL]
    refine loopF_run _ _ 0 _ _ ⟨a, r, l, _, _, rfl, rfl, h2, h3, h4, h5, h6⟩ fun i d env S1 hd hI => ?_
    obtain ⟨a', r', l', x3, x4, rfl, rfl, k1, k2, k3, k4, k5⟩ := hI
    obtain ⟨rfl, hi⟩ := iOrd_get hd
    rw [hln] at hi
    have hix : (is.map D.int)[(a + (i : Int)).toNat]? = some (.int (is[(a + (i : Int)).toNat]'(by omega))) := by
      rw [List.getElem?_map, List.getElem?_eq_getElem (by omega)]; rfl
    have k0 := ix_at (by omega) hix
    generalize is[(a + (i : Int)).toNat]'(by omega) = c at k0
    refine ⟨[.val (.ref 0), .val (.int w), .val (.lst (is.map .int)), .val (.int (a + (i : Int))), x4], rfl, ?_⟩
    have p1 : dMod (.int c) (.int w) = some (.int (c % w)) := mod_ok b6.1
    have p2 : 0 ≤ c % w := Int.emod_nonneg _ (by omega)
    by_cases c1 : r' = 0
    · by_cases c2 : l' = 0
      · by_cases c3 : c < 10 ^ 18
        · exact ⟨_, _, .inl (by simp only [q_mVar, q_mCst, q_oVal, q_oLoc, q_mOp2, q_bOf, q_bTru, q_bNot, q_bAnd, q_bOr, q_vAnd, q_vOr, q_vNot, q_mIte, q_mOr, q_aNil, q_aCons, q_aoNil, q_aoCons, q_mTup, q_nLst, q_iSeq, q_iSign, q_iR1, q_iR2, q_iEnumM, q_iRevM, q_iZipM, q_sNext, q_sSeq, q_sExpr, q_sRet, q_sRetN, q_sRetL, q_sIf, q_sSet, q_sSetN, q_sAsg, q_sFor, q_nLc, q_bYes, q_mCall, q_nCall, q_mMeth, q_mMeth0, q_mFld, q_mProp, q_nMake, q_pNone, q_pSome, q_mSl, q_mB, q_mRef, q_mMut, q_mMut0, q_mDGet, q_sPut, q_sFldP, q_sAug, q_mTx, q_mIsT, q_mInK, q_sRaise0, q_mExc, q_sTry, q_iScr, q_nDict, q_mNeg, q_mCallK, q_nCallK, Res.toS, Res.bind, Res.lift, Res.calm, resO, resL, CRes.toR, CRes.toN, CRes.toB, CRes.quiet, cellO, setE, setS, dLt, dLe, dGt, dGe, dAdd, iSub, dAddA, dEq, dNe, eqB, sEq, fInt, gNm, gTp, gsCons, gsNil, dTru, dIsN, dNotN, locAt, isLst, mutK, insC, List.getElem?_cons_zero, List.getElem?_cons_succ, List.set_cons_zero, List.set_cons_succ, List.length_cons, List.length_nil, List.length_set, Option.map_some, Option.map_none, Option.bind_some, if_true, if_false, decide_eq_true_eq, decide_true, decide_false, Nat.zero_lt_succ, Nat.reduceLT, Nat.reduceAdd, and_true, true_and, and_self, Bool.false_eq_true, List.map_cons, List.map_nil, List.cons_append, List.nil_append, List.replicate_succ, List.replicate_zero, Nat.reduceSub, List.append_nil, reduceCtorEq, reduceIte, ne_eq, not_false_eq_true, not_true_eq_false, List.tail_cons, List.head?_cons, sz_le, sz_lt, Nat.reduceLeDiff, Nat.zero_le, ok62_int, Int.reduceLE, Int.reduceNeg, Int.reduceToNat, Bool.and_self, g_rest, g_left, c1, c2, k0, p_at, q1b, c3, p_left] <;> rfl), a + i + 1, r', 2, _, _, by rfl, by rw [c1], by omega, by omega, k3, by omega, by omega⟩
        · exact ⟨_, _, .inl (by simp only [q_mVar, q_mCst, q_oVal, q_oLoc, q_mOp2, q_bOf, q_bTru, q_bNot, q_bAnd, q_bOr, q_vAnd, q_vOr, q_vNot, q_mIte, q_mOr, q_aNil, q_aCons, q_aoNil, q_aoCons, q_mTup, q_nLst, q_iSeq, q_iSign, q_iR1, q_iR2, q_iEnumM, q_iRevM, q_iZipM, q_sNext, q_sSeq, q_sExpr, q_sRet, q_sRetN, q_sRetL, q_sIf, q_sSet, q_sSetN, q_sAsg, q_sFor, q_nLc, q_bYes, q_mCall, q_nCall, q_mMeth, q_mMeth0, q_mFld, q_mProp, q_nMake, q_pNone, q_pSome, q_mSl, q_mB, q_mRef, q_mMut, q_mMut0, q_mDGet, q_sPut, q_sFldP, q_sAug, q_mTx, q_mIsT, q_mInK, q_sRaise0, q_mExc, q_sTry, q_iScr, q_nDict, q_mNeg, q_mCallK, q_nCallK, Res.toS, Res.bind, Res.lift, Res.calm, resO, resL, CRes.toR, CRes.toN, CRes.toB, CRes.quiet, cellO, setE, setS, dLt, dLe, dGt, dGe, dAdd, iSub, dAddA, dEq, dNe, eqB, sEq, fInt, gNm, gTp, gsCons, gsNil, dTru, dIsN, dNotN, locAt, isLst, mutK, insC, List.getElem?_cons_zero, List.getElem?_cons_succ, List.set_cons_zero, List.set_cons_succ, List.length_cons, List.length_nil, List.length_set, Option.map_some, Option.map_none, Option.bind_some, if_true, if_false, decide_eq_true_eq, decide_true, decide_false, Nat.zero_lt_succ, Nat.reduceLT, Nat.reduceAdd, and_true, true_and, and_self, Bool.false_eq_true, List.map_cons, List.map_nil, List.cons_append, List.nil_append, List.replicate_succ, List.replicate_zero, Nat.reduceSub, List.append_nil, reduceCtorEq, reduceIte, ne_eq, not_false_eq_true, not_true_eq_false, List.tail_cons, List.head?_cons, sz_le, sz_lt, Nat.reduceLeDiff, Nat.zero_le, ok62_int, Int.reduceLE, Int.reduceNeg, Int.reduceToNat, Bool.and_self, g_rest, g_left, c1, c2, k0, p_at, q1b, c3, p_rest, p1] <;> rfl), a + i + 1, c % w, l', _, _, by rfl, by rw [c2], by omega, by omega, p2, k4, by omega⟩
      · exact ⟨_, _, .inl (by simp only [q_mVar, q_mCst, q_oVal, q_oLoc, q_mOp2, q_bOf, q_bTru, q_bNot, q_bAnd, q_bOr, q_vAnd, q_vOr, q_vNot, q_mIte, q_mOr, q_aNil, q_aCons, q_aoNil, q_aoCons, q_mTup, q_nLst, q_iSeq, q_iSign, q_iR1, q_iR2, q_iEnumM, q_iRevM, q_iZipM, q_sNext, q_sSeq, q_sExpr, q_sRet, q_sRetN, q_sRetL, q_sIf, q_sSet, q_sSetN, q_sAsg, q_sFor, q_nLc, q_bYes, q_mCall, q_nCall, q_mMeth, q_mMeth0, q_mFld, q_mProp, q_nMake, q_pNone, q_pSome, q_mSl, q_mB, q_mRef, q_mMut, q_mMut0, q_mDGet, q_sPut, q_sFldP, q_sAug, q_mTx, q_mIsT, q_mInK, q_sRaise0, q_mExc, q_sTry, q_iScr, q_nDict, q_mNeg, q_mCallK, q_nCallK, Res.toS, Res.bind, Res.lift, Res.calm, resO, resL, CRes.toR, CRes.toN, CRes.toB, CRes.quiet, cellO, setE, setS, dLt, dLe, dGt, dGe, dAdd, iSub, dAddA, dEq, dNe, eqB, sEq, fInt, gNm, gTp, gsCons, gsNil, dTru, dIsN, dNotN, locAt, isLst, mutK, insC, List.getElem?_cons_zero, List.getElem?_cons_succ, List.set_cons_zero, List.set_cons_succ, List.length_cons, List.length_nil, List.length_set, Option.map_some, Option.map_none, Option.bind_some, if_true, if_false, decide_eq_true_eq, decide_true, decide_false, Nat.zero_lt_succ, Nat.reduceLT, Nat.reduceAdd, and_true, true_and, and_self, Bool.false_eq_true, List.map_cons, List.map_nil, List.cons_append, List.nil_append, List.replicate_succ, List.replicate_zero, Nat.reduceSub, List.append_nil, reduceCtorEq, reduceIte, ne_eq, not_false_eq_true, not_true_eq_false, List.tail_cons, List.head?_cons, sz_le, sz_lt, Nat.reduceLeDiff, Nat.zero_le, ok62_int, Int.reduceLE, Int.reduceNeg, Int.reduceToNat, Bool.and_self, g_rest, g_left, c1, c2] <;> rfl), a', r', l', _, _, by rfl, by rw [c1], k1, k2, k3, k4, k5⟩
    · exact ⟨_, _, .inl (by simp only [q_mVar, q_mCst, q_oVal, q_oLoc, q_mOp2, q_bOf, q_bTru, q_bNot, q_bAnd, q_bOr, q_vAnd, q_vOr, q_vNot, q_mIte, q_mOr, q_aNil, q_aCons, q_aoNil, q_aoCons, q_mTup, q_nLst, q_iSeq, q_iSign, q_iR1, q_iR2, q_iEnumM, q_iRevM, q_iZipM, q_sNext, q_sSeq, q_sExpr, q_sRet, q_sRetN, q_sRetL, q_sIf, q_sSet, q_sSetN, q_sAsg, q_sFor, q_nLc, q_bYes, q_mCall, q_nCall, q_mMeth, q_mMeth0, q_mFld, q_mProp, q_nMake, q_pNone, q_pSome, q_mSl, q_mB, q_mRef, q_mMut, q_mMut0, q_mDGet, q_sPut, q_sFldP, q_sAug, q_mTx, q_mIsT, q_mInK, q_sRaise0, q_mExc, q_sTry, q_iScr, q_nDict, q_mNeg, q_mCallK, q_nCallK, Res.toS, Res.bind, Res.lift, Res.calm, resO, resL, CRes.toR, CRes.toN, CRes.toB, CRes.quiet, cellO, setE, setS, dLt, dLe, dGt, dGe, dAdd, iSub, dAddA, dEq, dNe, eqB, sEq, fInt, gNm, gTp, gsCons, gsNil, dTru, dIsN, dNotN, locAt, isLst, mutK, insC, List.getElem?_cons_zero, List.getElem?_cons_succ, List.set_cons_zero, List.set_cons_succ, List.length_cons, List.length_nil, List.length_set, Option.map_some, Option.map_none, Option.bind_some, if_true, if_false, decide_eq_true_eq, decide_true, decide_false, Nat.zero_lt_succ, Nat.reduceLT, Nat.reduceAdd, and_true, true_and, and_self, Bool.false_eq_true, List.map_cons, List.map_nil, List.cons_append, List.nil_append, List.replicate_succ, List.replicate_zero, Nat.reduceSub, List.append_nil, reduceCtorEq, reduceIte, ne_eq, not_false_eq_true, not_true_eq_false, List.tail_cons, List.head?_cons, sz_le, sz_lt, Nat.reduceLeDiff, Nat.zero_le, ok62_int, Int.reduceLE, Int.reduceNeg, Int.reduceToNat, Bool.and_self, g_rest, c1] <;> rfl), a', r', l', _, _, by rfl, rfl, k1, k2, k3, k4, k5⟩
  exact ⟨_, rfl, is, a', r', l', t, s, rfl, h1, k1, k2, k3, k4, k5, h7, h8⟩
/-- within the divisors' line -/
def Sm (x : Int) : Prop := x < 2 ^ 8000
theorem take_ok {n : Nat} {st : D} (R : List D) (many : Int) (h : SOk n st) (hn : n < 2 ^ 90) (hm : Sm many) : ∃ v st', F_law_take [.ref 0, .int many] (st :: R) = .ok (.int v) (st' :: R) ∧ SOk (n + 1) st' ∧ 0 ≤ v ∧ (2 ≤ many → v < many) ∧ (many < 2 → v = 0) := by
  show ∃ v st', fnOf 4 ms_law_take [.ref 0, .int many] (st :: R) = .ok (.int v) (st' :: R) ∧ SOk (n + 1) st' ∧ 0 ≤ v ∧ (2 ≤ many → v < many) ∧ (many < 2 → v = 0)
  by_cases c0 : many < 2
  · refine ⟨0, st, ?_, h.mono (Nat.le_succ n), by omega, fun z => by omega, fun _ => rfl⟩
    simp only [q_mVar, q_mCst, q_oVal, q_oLoc, q_mOp2, q_bOf, q_bTru, q_bNot, q_bAnd, q_bOr, q_vAnd, q_vOr, q_vNot, q_mIte, q_mOr, q_aNil, q_aCons, q_aoNil, q_aoCons, q_mTup, q_nLst, q_iSeq, q_iSign, q_iR1, q_iR2, q_iEnumM, q_iRevM, q_iZipM, q_sNext, q_sSeq, q_sExpr, q_sRet, q_sRetN, q_sRetL, q_sIf, q_sSet, q_sSetN, q_sAsg, q_sFor, q_nLc, q_bYes, q_mCall, q_nCall, q_mMeth, q_mMeth0, q_mFld, q_mProp, q_nMake, q_pNone, q_pSome, q_mSl, q_mB, q_mRef, q_mMut, q_mMut0, q_mDGet, q_sPut, q_sFldP, q_sAug, q_mTx, q_mIsT, q_mInK, q_sRaise0, q_mExc, q_sTry, q_iScr, q_nDict, q_mNeg, q_mCallK, q_nCallK, Res.toS, Res.bind, Res.lift, Res.calm, resO, resL, CRes.toR, CRes.toN, CRes.toB, CRes.quiet, cellO, setE, setS, dLt, dLe, dGt, dGe, dAdd, iSub, dAddA, dEq, dNe, eqB, sEq, fInt, gNm, gTp, gsCons, gsNil, dTru, dIsN, dNotN, locAt, isLst, mutK, insC, List.getElem?_cons_zero, List.getElem?_cons_succ, List.set_cons_zero, List.set_cons_succ, List.length_cons, List.length_nil, List.length_set, Option.map_some, Option.map_none, Option.bind_some, if_true, if_false, decide_eq_true_eq, decide_true, decide_false, Nat.zero_lt_succ, Nat.reduceLT, Nat.reduceAdd, and_true, true_and, and_self, Bool.false_eq_true, List.map_cons, List.map_nil, List.cons_append, List.nil_append, List.replicate_succ, List.replicate_zero, Nat.reduceSub, List.append_nil, reduceCtorEq, reduceIte, ne_eq, not_false_eq_true, not_true_eq_false, List.tail_cons, List.head?_cons, sz_le, sz_lt, Nat.reduceLeDiff, Nat.zero_le, ok62_int, Int.reduceLE, Int.reduceNeg, Int.reduceToNat, Bool.and_self, fnOf, ms_law_take, env0, c0]
  obtain ⟨is, a, r, l, t, s, rfl, h1, h2, h3, h4, h5, h6, h7, h8⟩ := h
  have hop := opened_ok R (n := n) (st := stD is a r l t s) ⟨is, a, r, l, t, s, rfl, h1, h2, h3, h4, h5, h6, h7, h8⟩
  obtain ⟨st2, ho, is2, a2, r2, l2, t2, s2, rfl, k1, k2, k3, k4, k5, k6, k7, k8⟩ := hop
  have nm := nat_lt (show (0 : Int) ≤ many by omega) hm
  have fin : ∀ (is : List Int) (a r l t s : Int), is.length ≤ 63 → 0 ≤ a → a ≤ is.length → 0 ≤ r → 0 ≤ l → (0 < l → 1 ≤ a) → 0 ≤ t → t ≤ n → ∀ res : CRes,
      (0 < r → res = .ok (.int (r % many)) (stD is a (r / many) l t s :: R)) → (¬ 0 < r → 0 < l → ∀ c, is[(a - 1).toNat]? = some c → ∀ v, F_law_mixed [.int c, .int (t + 1), .int many] (stD is a r (l - 1) (t + 1) s :: R) = .ok (.int v) (stD is a r (l - 1) (t + 1) s :: R) → res = .ok (.int v) (stD is a r (l - 1) (t + 1) s :: R)) →
      (¬ 0 < r → ¬ 0 < l → ∀ v, F_law_mixed [.int s, .int (t + 1), .int many] (stD is a r l (t + 1) s :: R) = .ok (.int v) (stD is a r l (t + 1) s :: R) → res = .ok (.int v) (stD is a r l (t + 1) s :: R)) →
      ∃ v st', res = .ok (.int v) (st' :: R) ∧ SOk (n + 1) st' ∧ 0 ≤ v ∧ (2 ≤ many → v < many) ∧ (many < 2 → v = 0) := by
    intro is a r l t s h1 h2 h3 h4 h5 h6 h7 h8 res e1 e2 e3
    by_cases c1 : 0 < r
    · exact ⟨r % many, _, e1 c1, ⟨is, a, r / many, l, t, s, rfl, h1, h2, h3, Int.ediv_nonneg h4 (by omega), h5, h6, h7, by omega⟩, Int.emod_nonneg _ (by omega), fun _ => Int.emod_lt_of_pos _ (by omega), fun z => absurd z c0⟩
    · by_cases c2 : 0 < l
      · have ha := h6 c2
        obtain ⟨c, hc⟩ : ∃ c, is[(a - 1).toNat]? = some c := ⟨_, List.getElem?_eq_getElem (by omega)⟩
        obtain ⟨v, q1, q2, q3⟩ := mixed_ok (stD is a r (l - 1) (t + 1) s :: R) c (t + 1) many (by omega) (by omega) (by omega) hm
        exact ⟨v, _, e2 c1 c2 c hc v q1, ⟨is, a, r, l - 1, t + 1, s, rfl, h1, h2, h3, h4, by omega, fun _ => ha, by omega, by omega⟩, q2, fun _ => q3, fun z => absurd z c0⟩
      · obtain ⟨v, q1, q2, q3⟩ := mixed_ok (stD is a r l (t + 1) s :: R) s (t + 1) many (by omega) (by omega) (by omega) hm
        exact ⟨v, _, e3 c1 c2 v q1, ⟨is, a, r, l, t + 1, s, rfl, h1, h2, h3, h4, h5, h6, by omega, by omega⟩, q2, fun _ => q3, fun z => absurd z c0⟩
  have ix1 : ∀ {is : List Int} {a c : Int}, is[(a - 1).toNat]? = some c → 1 ≤ a → dIx (.lst (is.map .int)) (.int (a - 1)) = some (.int c) := fun {is a c} hc ha => ix_at (by omega) (by rw [List.getElem?_map, hc]; rfl)
  by_cases c1 : r = 0 ∧ l = 0
  · obtain ⟨rfl, rfl⟩ := c1
    refine fin is2 a2 r2 l2 t2 s2 k1 k2 k3 k4 k5 k6 k7 k8 _ (fun z => ?_) (fun z1 z2 c hc v hv => ?_) (fun z1 z2 v hv => ?_)
    · have m1 : dMod (.int r2) (.int many) = some (.int (r2 % many)) := mod_ok (by omega)
      have m2 : dFdiv (.int r2) (.int many) = some (.int (r2 / many)) := fdiv_ok (by omega) nm (by decide)
      simp only [q_mVar, q_mCst, q_oVal, q_oLoc, q_mOp2, q_bOf, q_bTru, q_bNot, q_bAnd, q_bOr, q_vAnd, q_vOr, q_vNot, q_mIte, q_mOr, q_aNil, q_aCons, q_aoNil, q_aoCons, q_mTup, q_nLst, q_iSeq, q_iSign, q_iR1, q_iR2, q_iEnumM, q_iRevM, q_iZipM, q_sNext, q_sSeq, q_sExpr, q_sRet, q_sRetN, q_sRetL, q_sIf, q_sSet, q_sSetN, q_sAsg, q_sFor, q_nLc, q_bYes, q_mCall, q_nCall, q_mMeth, q_mMeth0, q_mFld, q_mProp, q_nMake, q_pNone, q_pSome, q_mSl, q_mB, q_mRef, q_mMut, q_mMut0, q_mDGet, q_sPut, q_sFldP, q_sAug, q_mTx, q_mIsT, q_mInK, q_sRaise0, q_mExc, q_sTry, q_iScr, q_nDict, q_mNeg, q_mCallK, q_nCallK, Res.toS, Res.bind, Res.lift, Res.calm, resO, resL, CRes.toR, CRes.toN, CRes.toB, CRes.quiet, cellO, setE, setS, dLt, dLe, dGt, dGe, dAdd, iSub, dAddA, dEq, dNe, eqB, sEq, fInt, gNm, gTp, gsCons, gsNil, dTru, dIsN, dNotN, locAt, isLst, mutK, insC, List.getElem?_cons_zero, List.getElem?_cons_succ, List.set_cons_zero, List.set_cons_succ, List.length_cons, List.length_nil, List.length_set, Option.map_some, Option.map_none, Option.bind_some, if_true, if_false, decide_eq_true_eq, decide_true, decide_false, Nat.zero_lt_succ, Nat.reduceLT, Nat.reduceAdd, and_true, true_and, and_self, Bool.false_eq_true, List.map_cons, List.map_nil, List.cons_append, List.nil_append, List.replicate_succ, List.replicate_zero, Nat.reduceSub, List.append_nil, reduceCtorEq, reduceIte, ne_eq, not_false_eq_true, not_true_eq_false, List.tail_cons, List.head?_cons, sz_le, sz_lt, Nat.reduceLeDiff, Nat.zero_le, ok62_int, Int.reduceLE, Int.reduceNeg, Int.reduceToNat, Bool.and_self, fnOf, ms_law_take, env0, c0, g_rest, g_left, ho, z, m1, m2, p_rest]
    · simp only [q_mVar, q_mCst, q_oVal, q_oLoc, q_mOp2, q_bOf, q_bTru, q_bNot, q_bAnd, q_bOr, q_vAnd, q_vOr, q_vNot, q_mIte, q_mOr, q_aNil, q_aCons, q_aoNil, q_aoCons, q_mTup, q_nLst, q_iSeq, q_iSign, q_iR1, q_iR2, q_iEnumM, q_iRevM, q_iZipM, q_sNext, q_sSeq, q_sExpr, q_sRet, q_sRetN, q_sRetL, q_sIf, q_sSet, q_sSetN, q_sAsg, q_sFor, q_nLc, q_bYes, q_mCall, q_nCall, q_mMeth, q_mMeth0, q_mFld, q_mProp, q_nMake, q_pNone, q_pSome, q_mSl, q_mB, q_mRef, q_mMut, q_mMut0, q_mDGet, q_sPut, q_sFldP, q_sAug, q_mTx, q_mIsT, q_mInK, q_sRaise0, q_mExc, q_sTry, q_iScr, q_nDict, q_mNeg, q_mCallK, q_nCallK, Res.toS, Res.bind, Res.lift, Res.calm, resO, resL, CRes.toR, CRes.toN, CRes.toB, CRes.quiet, cellO, setE, setS, dLt, dLe, dGt, dGe, dAdd, iSub, dAddA, dEq, dNe, eqB, sEq, fInt, gNm, gTp, gsCons, gsNil, dTru, dIsN, dNotN, locAt, isLst, mutK, insC, List.getElem?_cons_zero, List.getElem?_cons_succ, List.set_cons_zero, List.set_cons_succ, List.length_cons, List.length_nil, List.length_set, Option.map_some, Option.map_none, Option.bind_some, if_true, if_false, decide_eq_true_eq, decide_true, decide_false, Nat.zero_lt_succ, Nat.reduceLT, Nat.reduceAdd, and_true, true_and, and_self, Bool.false_eq_true, List.map_cons, List.map_nil, List.cons_append, List.nil_append, List.replicate_succ, List.replicate_zero, Nat.reduceSub, List.append_nil, reduceCtorEq, reduceIte, ne_eq, not_false_eq_true, not_true_eq_false, List.tail_cons, List.head?_cons, sz_le, sz_lt, Nat.reduceLeDiff, Nat.zero_le, ok62_int, Int.reduceLE, Int.reduceNeg, Int.reduceToNat, Bool.and_self, fnOf, ms_law_take, env0, c0, g_rest, g_left, g_seed, g_cells, g_at, g_turn, ho, z1, z2, ix1 hc (k6 z2), p_left, p_turn, hv]
    · simp only [q_mVar, q_mCst, q_oVal, q_oLoc, q_mOp2, q_bOf, q_bTru, q_bNot, q_bAnd, q_bOr, q_vAnd, q_vOr, q_vNot, q_mIte, q_mOr, q_aNil, q_aCons, q_aoNil, q_aoCons, q_mTup, q_nLst, q_iSeq, q_iSign, q_iR1, q_iR2, q_iEnumM, q_iRevM, q_iZipM, q_sNext, q_sSeq, q_sExpr, q_sRet, q_sRetN, q_sRetL, q_sIf, q_sSet, q_sSetN, q_sAsg, q_sFor, q_nLc, q_bYes, q_mCall, q_nCall, q_mMeth, q_mMeth0, q_mFld, q_mProp, q_nMake, q_pNone, q_pSome, q_mSl, q_mB, q_mRef, q_mMut, q_mMut0, q_mDGet, q_sPut, q_sFldP, q_sAug, q_mTx, q_mIsT, q_mInK, q_sRaise0, q_mExc, q_sTry, q_iScr, q_nDict, q_mNeg, q_mCallK, q_nCallK, Res.toS, Res.bind, Res.lift, Res.calm, resO, resL, CRes.toR, CRes.toN, CRes.toB, CRes.quiet, cellO, setE, setS, dLt, dLe, dGt, dGe, dAdd, iSub, dAddA, dEq, dNe, eqB, sEq, fInt, gNm, gTp, gsCons, gsNil, dTru, dIsN, dNotN, locAt, isLst, mutK, insC, List.getElem?_cons_zero, List.getElem?_cons_succ, List.set_cons_zero, List.set_cons_succ, List.length_cons, List.length_nil, List.length_set, Option.map_some, Option.map_none, Option.bind_some, if_true, if_false, decide_eq_true_eq, decide_true, decide_false, Nat.zero_lt_succ, Nat.reduceLT, Nat.reduceAdd, and_true, true_and, and_self, Bool.false_eq_true, List.map_cons, List.map_nil, List.cons_append, List.nil_append, List.replicate_succ, List.replicate_zero, Nat.reduceSub, List.append_nil, reduceCtorEq, reduceIte, ne_eq, not_false_eq_true, not_true_eq_false, List.tail_cons, List.head?_cons, sz_le, sz_lt, Nat.reduceLeDiff, Nat.zero_le, ok62_int, Int.reduceLE, Int.reduceNeg, Int.reduceToNat, Bool.and_self, fnOf, ms_law_take, env0, c0, g_rest, g_left, g_seed, g_cells, g_at, g_turn, ho, z1, z2, p_left, p_turn, hv]
  · refine fin is a r l t s h1 h2 h3 h4 h5 h6 h7 h8 _ (fun z => ?_) (fun z1 z2 c hc v hv => ?_) (fun z1 z2 v hv => ?_)
    · have z0 : ¬ r = 0 := by omega
      have m1 : dMod (.int r) (.int many) = some (.int (r % many)) := mod_ok (by omega)
      have m2 : dFdiv (.int r) (.int many) = some (.int (r / many)) := fdiv_ok (by omega) nm (by decide)
      simp only [q_mVar, q_mCst, q_oVal, q_oLoc, q_mOp2, q_bOf, q_bTru, q_bNot, q_bAnd, q_bOr, q_vAnd, q_vOr, q_vNot, q_mIte, q_mOr, q_aNil, q_aCons, q_aoNil, q_aoCons, q_mTup, q_nLst, q_iSeq, q_iSign, q_iR1, q_iR2, q_iEnumM, q_iRevM, q_iZipM, q_sNext, q_sSeq, q_sExpr, q_sRet, q_sRetN, q_sRetL, q_sIf, q_sSet, q_sSetN, q_sAsg, q_sFor, q_nLc, q_bYes, q_mCall, q_nCall, q_mMeth, q_mMeth0, q_mFld, q_mProp, q_nMake, q_pNone, q_pSome, q_mSl, q_mB, q_mRef, q_mMut, q_mMut0, q_mDGet, q_sPut, q_sFldP, q_sAug, q_mTx, q_mIsT, q_mInK, q_sRaise0, q_mExc, q_sTry, q_iScr, q_nDict, q_mNeg, q_mCallK, q_nCallK, Res.toS, Res.bind, Res.lift, Res.calm, resO, resL, CRes.toR, CRes.toN, CRes.toB, CRes.quiet, cellO, setE, setS, dLt, dLe, dGt, dGe, dAdd, iSub, dAddA, dEq, dNe, eqB, sEq, fInt, gNm, gTp, gsCons, gsNil, dTru, dIsN, dNotN, locAt, isLst, mutK, insC, List.getElem?_cons_zero, List.getElem?_cons_succ, List.set_cons_zero, List.set_cons_succ, List.length_cons, List.length_nil, List.length_set, Option.map_some, Option.map_none, Option.bind_some, if_true, if_false, decide_eq_true_eq, decide_true, decide_false, Nat.zero_lt_succ, Nat.reduceLT, Nat.reduceAdd, and_true, true_and, and_self, Bool.false_eq_true, List.map_cons, List.map_nil, List.cons_append, List.nil_append, List.replicate_succ, List.replicate_zero, Nat.reduceSub, List.append_nil, reduceCtorEq, reduceIte, ne_eq, not_false_eq_true, not_true_eq_false, List.tail_cons, List.head?_cons, sz_le, sz_lt, Nat.reduceLeDiff, Nat.zero_le, ok62_int, Int.reduceLE, Int.reduceNeg, Int.reduceToNat, Bool.and_self, fnOf, ms_law_take, env0, c0, g_rest, g_left, z0, z, m1, m2, p_rest]
    · obtain rfl : r = 0 := by omega
      have z3 : ¬ l = 0 := by omega
      simp only [q_mVar, q_mCst, q_oVal, q_oLoc, q_mOp2, q_bOf, q_bTru, q_bNot, q_bAnd, q_bOr, q_vAnd, q_vOr, q_vNot, q_mIte, q_mOr, q_aNil, q_aCons, q_aoNil, q_aoCons, q_mTup, q_nLst, q_iSeq, q_iSign, q_iR1, q_iR2, q_iEnumM, q_iRevM, q_iZipM, q_sNext, q_sSeq, q_sExpr, q_sRet, q_sRetN, q_sRetL, q_sIf, q_sSet, q_sSetN, q_sAsg, q_sFor, q_nLc, q_bYes, q_mCall, q_nCall, q_mMeth, q_mMeth0, q_mFld, q_mProp, q_nMake, q_pNone, q_pSome, q_mSl, q_mB, q_mRef, q_mMut, q_mMut0, q_mDGet, q_sPut, q_sFldP, q_sAug, q_mTx, q_mIsT, q_mInK, q_sRaise0, q_mExc, q_sTry, q_iScr, q_nDict, q_mNeg, q_mCallK, q_nCallK, Res.toS, Res.bind, Res.lift, Res.calm, resO, resL, CRes.toR, CRes.toN, CRes.toB, CRes.quiet, cellO, setE, setS, dLt, dLe, dGt, dGe, dAdd, iSub, dAddA, dEq, dNe, eqB, sEq, fInt, gNm, gTp, gsCons, gsNil, dTru, dIsN, dNotN, locAt, isLst, mutK, insC, List.getElem?_cons_zero, List.getElem?_cons_succ, List.set_cons_zero, List.set_cons_succ, List.length_cons, List.length_nil, List.length_set, Option.map_some, Option.map_none, Option.bind_some, if_true, if_false, decide_eq_true_eq, decide_true, decide_false, Nat.zero_lt_succ, Nat.reduceLT, Nat.reduceAdd, and_true, true_and, and_self, Bool.false_eq_true, List.map_cons, List.map_nil, List.cons_append, List.nil_append, List.replicate_succ, List.replicate_zero, Nat.reduceSub, List.append_nil, reduceCtorEq, reduceIte, ne_eq, not_false_eq_true, not_true_eq_false, List.tail_cons, List.head?_cons, sz_le, sz_lt, Nat.reduceLeDiff, Nat.zero_le, ok62_int, Int.reduceLE, Int.reduceNeg, Int.reduceToNat, Bool.and_self, fnOf, ms_law_take, env0, c0, g_rest, g_left, g_seed, g_cells, g_at, g_turn, z3, z1, z2, ix1 hc (h6 z2), p_left, p_turn, hv]
    · exact absurd ⟨by omega, by omega⟩ c1
theorem draws_ok (is : List Int) (S : List D) (hl : is.length ≤ 63) : ∃ st, F_law_draws [.scr is] S = .new st S ∧ SOk 0 st := by
  show ∃ st, fnOf 3 ms_law_draws [.scr is] S = .new st S ∧ SOk 0 st
  have e1 : fLen [.scr is] = some (.int is.length) := rfl
  have e2 : fList [.scr is] = some (.lst (is.map .int)) := rfl
  simp only [q_mVar, q_mCst, q_oVal, q_oLoc, q_mOp2, q_bOf, q_bTru, q_bNot, q_bAnd, q_bOr, q_vAnd, q_vOr, q_vNot, q_mIte, q_mOr, q_aNil, q_aCons, q_aoNil, q_aoCons, q_mTup, q_nLst, q_iSeq, q_iSign, q_iR1, q_iR2, q_iEnumM, q_iRevM, q_iZipM, q_sNext, q_sSeq, q_sExpr, q_sRet, q_sRetN, q_sRetL, q_sIf, q_sSet, q_sSetN, q_sAsg, q_sFor, q_nLc, q_bYes, q_mCall, q_nCall, q_mMeth, q_mMeth0, q_mFld, q_mProp, q_nMake, q_pNone, q_pSome, q_mSl, q_mB, q_mRef, q_mMut, q_mMut0, q_mDGet, q_sPut, q_sFldP, q_sAug, q_mTx, q_mIsT, q_mInK, q_sRaise0, q_mExc, q_sTry, q_iScr, q_nDict, q_mNeg, q_mCallK, q_nCallK, Res.toS, Res.bind, Res.lift, Res.calm, resO, resL, CRes.toR, CRes.toN, CRes.toB, CRes.quiet, cellO, setE, setS, dLt, dLe, dGt, dGe, dAdd, iSub, dAddA, dEq, dNe, eqB, sEq, fInt, gNm, gTp, gsCons, gsNil, dTru, dIsN, dNotN, locAt, isLst, mutK, insC, List.getElem?_cons_zero, List.getElem?_cons_succ, List.set_cons_zero, List.set_cons_succ, List.length_cons, List.length_nil, List.length_set, Option.map_some, Option.map_none, Option.bind_some, if_true, if_false, decide_eq_true_eq, decide_true, decide_false, Nat.zero_lt_succ, Nat.reduceLT, Nat.reduceAdd, and_true, true_and, and_self, Bool.false_eq_true, List.map_cons, List.map_nil, List.cons_append, List.nil_append, List.replicate_succ, List.replicate_zero, Nat.reduceSub, List.append_nil, reduceCtorEq, reduceIte, ne_eq, not_false_eq_true, not_true_eq_false, List.tail_cons, List.head?_cons, sz_le, sz_lt, Nat.reduceLeDiff, Nat.zero_le, ok62_int, Int.reduceLE, Int.reduceNeg, Int.reduceToNat, Bool.and_self, fnOf, ms_law_draws, env0, e1, e2]
  generalize hL : loopF _ _ _ _ _ = L
  obtain ⟨env', S', rfl, rfl, seed, x2, rfl, _, _⟩ : ∃ env' S', L = .next env' S' ∧ (S' = S ∧ ∃ seed x2, env' = [.val (.scr is), .val (.int seed), x2] ∧ 0 ≤ seed ∧ seed < 2 ^ 31) := by
    rw [← hL]
    have := loopF_run (g := gNm 2) (body := (sSet 1 (mOp2 dMod (oVal (mB fInt (aoCons (oVal (mOp2 dAdd (oVal (mOp2 dAdd (oVal (mOp2 dMul (oLoc 1) (oVal (mCst (.int 31))))) (oVal (mOp2 dMod (oVal (mB fInt (aoCons (oLoc 2) aoNil))) (oVal (mCst (.int 2147483647))))))) (oVal (mCst (.int 17))))) aoNil))) (oVal (mCst (.int 2147483629))))))
      (fun _ env' S' => S' = S ∧ ∃ seed x2, env' = [.val (.scr is), .val (.int seed), x2] ∧ 0 ≤ seed ∧ seed < 2 ^ 31) (is.map .int) 0 [.val (.scr is), .val (.int (1 + (is.length : Int))), .none] S ⟨rfl, _, _, rfl, by omega, by omega⟩ fun i d env S1 hd hI => ?_
    · exact this
    · obtain ⟨rfl, seed, x2, rfl, a1, a2⟩ := hI
      obtain ⟨c, rfl⟩ : ∃ c, d = .int c := by
        rw [List.getElem?_map] at hd
        cases q : is[i]? with
        | none => rw [q] at hd; cases hd
        | some c => rw [q] at hd; cases hd; exact ⟨c, rfl⟩
      have k1 : dMul (.int seed) (.int 31) = some (.int (seed * 31)) := mul_ok (n := 31) (m := 5) (by omega) (by decide) (by decide)
      have k2 : dMod (.int c) (.int 2147483647) = some (.int (c % 2147483647)) := mod_ok (by decide)
      have k3 : dMod (.int (seed * 31 + c % 2147483647 + 17)) (.int 2147483629) = some (.int ((seed * 31 + c % 2147483647 + 17) % 2147483629)) := mod_ok (by decide)
      refine ⟨[.val (.scr is), .val (.int seed), .val (.int c)], rfl, _, _, .inl (by simp only [q_mVar, q_mCst, q_oVal, q_oLoc, q_mOp2, q_bOf, q_bTru, q_bNot, q_bAnd, q_bOr, q_vAnd, q_vOr, q_vNot, q_mIte, q_mOr, q_aNil, q_aCons, q_aoNil, q_aoCons, q_mTup, q_nLst, q_iSeq, q_iSign, q_iR1, q_iR2, q_iEnumM, q_iRevM, q_iZipM, q_sNext, q_sSeq, q_sExpr, q_sRet, q_sRetN, q_sRetL, q_sIf, q_sSet, q_sSetN, q_sAsg, q_sFor, q_nLc, q_bYes, q_mCall, q_nCall, q_mMeth, q_mMeth0, q_mFld, q_mProp, q_nMake, q_pNone, q_pSome, q_mSl, q_mB, q_mRef, q_mMut, q_mMut0, q_mDGet, q_sPut, q_sFldP, q_sAug, q_mTx, q_mIsT, q_mInK, q_sRaise0, q_mExc, q_sTry, q_iScr, q_nDict, q_mNeg, q_mCallK, q_nCallK, Res.toS, Res.bind, Res.lift, Res.calm, resO, resL, CRes.toR, CRes.toN, CRes.toB, CRes.quiet, cellO, setE, setS, dLt, dLe, dGt, dGe, dAdd, iSub, dAddA, dEq, dNe, eqB, sEq, fInt, gNm, gTp, gsCons, gsNil, dTru, dIsN, dNotN, locAt, isLst, mutK, insC, List.getElem?_cons_zero, List.getElem?_cons_succ, List.set_cons_zero, List.set_cons_succ, List.length_cons, List.length_nil, List.length_set, Option.map_some, Option.map_none, Option.bind_some, if_true, if_false, decide_eq_true_eq, decide_true, decide_false, Nat.zero_lt_succ, Nat.reduceLT, Nat.reduceAdd, and_true, true_and, and_self, Bool.false_eq_true, List.map_cons, List.map_nil, List.cons_append, List.nil_append, List.replicate_succ, List.replicate_zero, Nat.reduceSub, List.append_nil, reduceCtorEq, reduceIte, ne_eq, not_false_eq_true, not_true_eq_false, List.tail_cons, List.head?_cons, sz_le, sz_lt, Nat.reduceLeDiff, Nat.zero_le, ok62_int, Int.reduceLE, Int.reduceNeg, Int.reduceToNat, Bool.and_self, k1, k2, k3] <;> rfl), rfl, _, _, rfl, Int.emod_nonneg _ (by decide), Int.lt_trans (Int.emod_lt_of_pos _ (by decide)) (by decide)⟩
  simp only [q_mVar, q_mCst, q_oVal, q_oLoc, q_mOp2, q_bOf, q_bTru, q_bNot, q_bAnd, q_bOr, q_vAnd, q_vOr, q_vNot, q_mIte, q_mOr, q_aNil, q_aCons, q_aoNil, q_aoCons, q_mTup, q_nLst, q_iSeq, q_iSign, q_iR1, q_iR2, q_iEnumM, q_iRevM, q_iZipM, q_sNext, q_sSeq, q_sExpr, q_sRet, q_sRetN, q_sRetL, q_sIf, q_sSet, q_sSetN, q_sAsg, q_sFor, q_nLc, q_bYes, q_mCall, q_nCall, q_mMeth, q_mMeth0, q_mFld, q_mProp, q_nMake, q_pNone, q_pSome, q_mSl, q_mB, q_mRef, q_mMut, q_mMut0, q_mDGet, q_sPut, q_sFldP, q_sAug, q_mTx, q_mIsT, q_mInK, q_sRaise0, q_mExc, q_sTry, q_iScr, q_nDict, q_mNeg, q_mCallK, q_nCallK, Res.toS, Res.bind, Res.lift, Res.calm, resO, resL, CRes.toR, CRes.toN, CRes.toB, CRes.quiet, cellO, setE, setS, dLt, dLe, dGt, dGe, dAdd, iSub, dAddA, dEq, dNe, eqB, sEq, fInt, gNm, gTp, gsCons, gsNil, dTru, dIsN, dNotN, locAt, isLst, mutK, insC, List.getElem?_cons_zero, List.getElem?_cons_succ, List.set_cons_zero, List.set_cons_succ, List.length_cons, List.length_nil, List.length_set, Option.map_some, Option.map_none, Option.bind_some, if_true, if_false, decide_eq_true_eq, decide_true, decide_false, Nat.zero_lt_succ, Nat.reduceLT, Nat.reduceAdd, and_true, true_and, and_self, Bool.false_eq_true, List.map_cons, List.map_nil, List.cons_append, List.nil_append, List.replicate_succ, List.replicate_zero, Nat.reduceSub, List.append_nil, reduceCtorEq, reduceIte, ne_eq, not_false_eq_true, not_true_eq_false, List.tail_cons, List.head?_cons, sz_le, sz_lt, Nat.reduceLeDiff, Nat.zero_le, ok62_int, Int.reduceLE, Int.reduceNeg, Int.reduceToNat, Bool.and_self, e1, e2]
  exact ⟨_, rfl, is, 0, 0, 0, 0, seed, rfl, hl, by omega, by omega, by omega, by omega, fun z => by omega, by omega, by omega⟩
end K84
/-! M84: the walks of plans, in plain Lean -/
namespace K84
abbrev Rows := List (List Int)
def rowAt (rows : Rows) (m : Nat) : List Int := (rows[m]?).getD []
def gd (c : Nat) : Int := if c = 103 then 1 else 0
def gs : List Nat → Int
  | [] => 0
  | c :: cs => gs cs + gd c
theorem gs_snoc (l : List Nat) (c : Nat) : gs (l ++ [c]) = gs l + gd c := by
  induction l with
  | nil => simp [gs]
  | cons x l ih => simp only [List.cons_append, gs, ih]; omega
theorem gs_bounds (l : List Nat) : 0 ≤ gs l ∧ gs l ≤ l.length := by
  induction l with
  | nil => simp [gs]
  | cons x l ih => simp only [gs, gd, List.length_cons]; split <;> omega
def going (rows : Rows) (co : List Nat) : Bool := decide (gs co ∈ rowAt rows co.length)
theorem rowAt_ge {rows : Rows} {m : Nat} (h : rows.length ≤ m) : rowAt rows m = [] := by
  unfold rowAt; rw [List.getElem?_eq_none h]; rfl
theorem rowAt_lt {rows : Rows} {m : Nat} (h : m < rows.length) : rowAt rows m = rows[m] := by
  unfold rowAt; rw [List.getElem?_eq_getElem h]; rfl
theorem going_lt {rows : Rows} {co : List Nat} (h : going rows co = true) : co.length < rows.length := by
  apply Classical.byContradiction
  intro z
  have := of_decide_eq_true h
  rw [rowAt_ge (by omega)] at this
  cases this
/-! one plan's looks in a row -/
def one (rows : Rows) (cs : List Nat) (p : List Nat × Nat) : List Nat × Nat := if going rows p.1 then (p.1 ++ [cs.getD p.2 0], p.2 + 1) else p
def iter {α : Type} (f : α → α) : Nat → α → α
  | 0, a => a
  | n + 1, a => f (iter f n a)
/-- what holds after j steps of one plan from the start at s -/
structure OneI (rows : Rows) (cs : List Nat) (s j : Nat) (p : List Nat × Nat) : Prop where
  le : p.1.length ≤ j
  dn : p.1.length = j ∨ going rows p.1 = false
  at_ : p.2 = s + p.1.length
  seg : s + rows.length ≤ cs.length → cs.take s ++ p.1 = cs.take p.2
  lim : p.1.length ≤ rows.length
theorem oneI_0 (rows : Rows) (cs : List Nat) (s : Nat) : OneI rows cs s 0 ([], s) := ⟨by simp, .inl rfl, by simp, fun _ => by simp, by simp⟩
theorem one_step {rows : Rows} {cs : List Nat} {s j : Nat} {p : List Nat × Nat} (h : OneI rows cs s j p) : OneI rows cs s (j + 1) (one rows cs p) := by
  obtain ⟨co, at_⟩ := p
  obtain ⟨h1, h2, h3, h4, h5⟩ := h
  dsimp only at h1 h2 h3 h4 h5
  unfold one
  dsimp only
  by_cases g : going rows co = true
  · rw [if_pos g]
    have hl := going_lt g
    have e : co.length = j := h2.resolve_right (by rw [g]; decide)
    refine ⟨by simp; omega, .inl (by simp; omega), by simp; omega, fun hs => ?_, by simp; omega⟩
    have q := h4 hs
    dsimp only
    rw [← List.append_assoc, q, h3]
    rw [List.getD_eq_getElem?_getD, List.getElem?_eq_getElem (by omega)]
    simp
  · rw [if_neg g]
    exact ⟨by dsimp only; omega, .inr (by simpa using g), h3, h4, h5⟩
theorem one_iter (rows : Rows) (cs : List Nat) (s : Nat) : ∀ j, OneI rows cs s j (iter (one rows cs) j ([], s))
  | 0 => oneI_0 rows cs s
  | j + 1 => one_step (one_iter rows cs s j)
theorem one_end {rows : Rows} {cs : List Nat} {s j : Nat} {p : List Nat × Nat} (h : OneI rows cs s j p) (hj : rows.length ≤ j) : going rows p.1 = false := by
  rcases h.dn with e | e
  · cases g : going rows p.1 with
    | false => rfl
    | true => have := going_lt g; omega
  · exact e
theorem one_stop {rows : Rows} {cs : List Nat} {p : List Nat × Nat} (h : going rows p.1 = false) : one rows cs p = p := by unfold one; rw [h]; rfl
theorem iter_stop {α : Type} {f : α → α} {n : Nat} {a : α} (h : f (iter f n a) = iter f n a) : ∀ k, iter f (n + k) a = iter f n a
  | 0 => rfl
  | k + 1 => by show f (iter f (n + k) a) = _; rw [iter_stop h k, h]
def oneN (rows : Rows) (cs : List Nat) (s : Nat) : List Nat × Nat := iter (one rows cs) rows.length ([], s)
/-- the courses of plans one behind the other -/
def inRow (cs : List Nat) : List Rows → Nat → List (List Nat) × Nat
  | [], s => ([], s)
  | r :: rs, s => ((oneN r cs s).1 :: (inRow cs rs (oneN r cs s).2).1, (inRow cs rs (oneN r cs s).2).2)
def need : List Rows → Nat
  | [] => 0
  | r :: rs => r.length + need rs
theorem oneN_I (rows : Rows) (cs : List Nat) (s : Nat) : OneI rows cs s rows.length (oneN rows cs s) := one_iter rows cs s _
theorem inRow_le (cs : List Nat) : ∀ (ps : List Rows) (s : Nat), (inRow cs ps s).2 ≤ s + need ps ∧ (inRow cs ps s).1.length = ps.length ∧ s ≤ (inRow cs ps s).2
  | [], s => by simp [inRow, need]
  | r :: rs, s => by
    have h := oneN_I r cs s
    have k := inRow_le cs rs (oneN r cs s).2
    have h3 := h.at_
    have h5 := h.lim
    simp only [inRow, need, List.length_cons]
    omega
theorem inRow_seg (cs : List Nat) : ∀ (ps : List Rows) (s : Nat), s + need ps ≤ cs.length → cs.take s ++ (inRow cs ps s).1.flatten = cs.take (inRow cs ps s).2
  | [], s, _ => by simp [inRow]
  | r :: rs, s, h => by
    have k := oneN_I r cs s
    have h3 := k.at_
    have h5 := k.lim
    simp only [need] at h
    have e := k.seg (by omega)
    have q := inRow_seg cs rs (oneN r cs s).2 (by omega)
    simp only [inRow, List.flatten_cons]
    rw [← List.append_assoc, e, q]
/-! turns -/
def pass (cs : List Nat) : List Rows → List (List Nat) → Nat → List (List Nat) × Nat
  | r :: rs, co :: cos, s => if going r co then ((co ++ [cs.getD s 0]) :: (pass cs rs cos (s + 1)).1, (pass cs rs cos (s + 1)).2) else (co :: (pass cs rs cos s).1, (pass cs rs cos s).2)
  | _, cos, s => (cos, s)
/-- somebody takes a look -/
def moves : List Rows → List (List Nat) → Bool
  | r :: rs, co :: cos => going r co || moves rs cos
  | _, _ => false
theorem pass_still (cs : List Nat) : ∀ (ps : List Rows) (cos : List (List Nat)) (s : Nat), moves ps cos = false → pass cs ps cos s = (cos, s)
  | [], cos, s, _ => by cases cos <;> rfl
  | r :: rs, [], s, _ => rfl
  | r :: rs, co :: cos, s, h => by
    simp only [moves, Bool.or_eq_false_iff] at h
    simp only [pass, h.1, pass_still cs rs cos s h.2]
    rfl
/-- what holds after j rounds -/
inductive TurnI (j : Nat) : List Rows → List (List Nat) → Prop
  | nil : TurnI j [] []
  | cons {r : Rows} {co : List Nat} {rs : List Rows} {cos : List (List Nat)} (le : co.length ≤ j) (lim : co.length ≤ r.length) (dn : co.length = j ∨ going r co = false) (t : TurnI j rs cos) : TurnI j (r :: rs) (co :: cos)
theorem turnI_len {j : Nat} : ∀ {ps : List Rows} {cos : List (List Nat)}, TurnI j ps cos → cos.length = ps.length
  | _, _, .nil => rfl
  | _, _, .cons _ _ _ t => by simp [turnI_len t]
theorem turnI_0 : ∀ ps : List Rows, TurnI 0 ps (ps.map fun _ => [])
  | [] => .nil
  | _ :: rs => .cons (by simp) (by simp) (.inl rfl) (turnI_0 rs)
theorem turnI_step (cs : List Nat) {j : Nat} : ∀ {ps : List Rows} {cos : List (List Nat)} (s : Nat), TurnI j ps cos → TurnI (j + 1) ps (pass cs ps cos s).1
  | _, _, s, .nil => .nil
  | _, _, s, .cons (r := r) (co := co) le lim dn t => by
    simp only [pass]
    by_cases g : going r co = true
    · rw [if_pos g]
      have := going_lt g
      have e : co.length = j := dn.resolve_right (by rw [g]; decide)
      exact .cons (by simp; omega) (by simp; omega) (.inl (by simp; omega)) (turnI_step cs (s + 1) t)
    · rw [if_neg g]
      exact .cons (by omega) lim (.inr (by simpa using g)) (turnI_step cs s t)
theorem turnI_end {j : Nat} : ∀ {ps : List Rows} {cos : List (List Nat)}, TurnI j ps cos → (∀ r ∈ ps, r.length ≤ j) → moves ps cos = false
  | _, _, .nil, _ => rfl
  | _, _, .cons (r := r) (co := co) le lim dn t, h => by
    simp only [moves, Bool.or_eq_false_iff]
    refine ⟨?_, turnI_end t fun r hr => h r (List.mem_cons_of_mem _ hr)⟩
    rcases dn with e | e
    · cases g : going r co with
      | false => rfl
      | true => have := going_lt g; have := h r (List.mem_cons_self ..); omega
    · exact e
/-- how many looks are taken in all -/
def total : List (List Nat) → Nat
  | [] => 0
  | c :: cs => c.length + total cs
theorem pass_total (cs : List Nat) : ∀ (ps : List Rows) (cos : List (List Nat)) (s : Nat), s + total (pass cs ps cos s).1 = (pass cs ps cos s).2 + total cos ∧ s ≤ (pass cs ps cos s).2
  | [], cos, s => by cases cos <;> simp [pass]
  | _ :: _, [], s => by simp [pass]
  | r :: rs, co :: cos, s => by
    simp only [pass]
    by_cases g : going r co = true
    · rw [if_pos g]
      have h := pass_total cs rs cos (s + 1)
      simp only [total, List.length_append, List.length_cons, List.length_nil]
      omega
    · rw [if_neg g]
      have h := pass_total cs rs cos s
      simp only [total]
      omega
theorem turnI_total {j : Nat} : ∀ {ps : List Rows} {cos : List (List Nat)}, TurnI j ps cos → total cos ≤ need ps
  | _, _, .nil => Nat.le_refl 0
  | _, _, .cons le lim dn t => by
    have := turnI_total t
    simp only [total, need]
    omega
def pass2 (cs : List Nat) (ps : List Rows) (p : List (List Nat) × Nat) : List (List Nat) × Nat := pass cs ps p.1 p.2
def rounds (cs : List Nat) (ps : List Rows) (j : Nat) : List (List Nat) × Nat := iter (pass2 cs ps) j (ps.map fun _ => [], 0)
theorem total_nil : ∀ ps : List Rows, total (ps.map fun _ => []) = 0
  | [] => rfl
  | _ :: rs => by simp [total, total_nil rs]
theorem rounds_I (cs : List Nat) (ps : List Rows) : ∀ j, TurnI j ps (rounds cs ps j).1 ∧ total (rounds cs ps j).1 = (rounds cs ps j).2
  | 0 => ⟨turnI_0 ps, total_nil ps⟩
  | j + 1 => by
    have h := rounds_I cs ps j
    have k := pass_total cs ps (rounds cs ps j).1 (rounds cs ps j).2
    exact ⟨turnI_step cs _ h.1, by show total (pass cs ps (rounds cs ps j).1 (rounds cs ps j).2).1 = (pass cs ps (rounds cs ps j).1 (rounds cs ps j).2).2; omega⟩
/-! the letters in the order of the rounds -/
inductive Ext (k : Nat) : List (List Nat) → List (List Nat) → Prop
  | nil : Ext k [] []
  | cons {a b : List Nat} {as bs : List (List Nat)} (h : b.take k = a) (t : Ext k as bs) : Ext k (a :: as) (b :: bs)
theorem ext_refl {j : Nat} : ∀ {ps : List Rows} {cos : List (List Nat)}, TurnI j ps cos → Ext j cos cos
  | _, _, .nil => .nil
  | _, _, .cons le lim dn t => .cons (List.take_of_length_le le) (ext_refl t)
theorem ext_pass (cs : List Nat) {k j : Nat} (hk : k ≤ j) : ∀ {ps : List Rows} {as cos : List (List Nat)} (s : Nat), TurnI j ps cos → Ext k as cos → Ext k as (pass cs ps cos s).1
  | _, _, _, s, .nil, e => e
  | _, _, _, s, .cons (r := r) (co := co) le lim dn t, .cons h e => by
    simp only [pass]
    by_cases g : going r co = true
    · rw [if_pos g]
      have e1 : co.length = j := dn.resolve_right (by rw [g]; decide)
      refine .cons ?_ (ext_pass cs hk (s + 1) t e)
      rw [List.take_append_of_le_length (by omega)]; exact h
    · rw [if_neg g]
      exact .cons h (ext_pass cs hk s t e)
theorem ext_rounds (cs : List Nat) (ps : List Rows) (k : Nat) : ∀ j, Ext k (rounds cs ps k).1 (rounds cs ps (k + j)).1
  | 0 => ext_refl (rounds_I cs ps k).1
  | j + 1 => ext_pass cs (by omega) _ (rounds_I cs ps (k + j)).1 (ext_rounds cs ps k j)
/-- the letters of round k, plan by plan -/
def lets (k : Nat) : List (List Nat) → List Nat
  | [] => []
  | c :: cs => (c.take (k + 1)).drop k ++ lets k cs
theorem lets_pass (cs : List Nat) {k : Nat} : ∀ {ps : List Rows} {cos fs : List (List Nat)} (s : Nat), TurnI k ps cos → Ext (k + 1) (pass cs ps cos s).1 fs → (pass cs ps cos s).2 ≤ cs.length →
    cs.take s ++ lets k fs = cs.take (pass cs ps cos s).2
  | _, _, _, s, .nil, .nil, _ => by simp [lets, pass]
  | _, _, _, s, .cons (r := r) (co := co) (rs := rs) (cos := cos) le lim dn t, e, hl => by
    simp only [pass] at e hl ⊢
    by_cases g : going r co = true
    · rw [if_pos g] at e hl ⊢
      have e1 : co.length = k := dn.resolve_right (by rw [g]; decide)
      cases e with
      | cons h e =>
        have hs := (pass_total cs rs cos (s + 1)).2
        dsimp only at hl ⊢
        have q := lets_pass cs (s + 1) t e hl
        simp only [lets, h]
        rw [List.drop_append, List.drop_of_length_le (by omega), e1, Nat.sub_self, List.drop_zero, List.nil_append, ← List.append_assoc, ← q]
        congr 1
        rw [List.getD_eq_getElem?_getD, List.getElem?_eq_getElem (by omega)]
        simp
    · rw [if_neg g] at e hl ⊢
      cases e with
      | cons h e =>
        have q := lets_pass cs s t e hl
        simp only [lets, h]
        rw [List.drop_of_length_le (by omega), List.nil_append, ← q]
def dealt (fs : List (List Nat)) : Nat → List Nat
  | 0 => []
  | k + 1 => dealt fs k ++ lets k fs
theorem dealt_rounds (cs : List Nat) (ps : List Rows) (h : need ps ≤ cs.length) (K : Nat) : ∀ k, k ≤ K → dealt (rounds cs ps K).1 k = cs.take (rounds cs ps k).2
  | 0, _ => by simp [dealt, rounds, iter]
  | k + 1, hk => by
    have q := dealt_rounds cs ps h K k (by omega)
    obtain ⟨d, rfl⟩ : ∃ d, K = k + 1 + d := ⟨K - (k + 1), by omega⟩
    have b := rounds_I cs ps (k + 1)
    have b1 := turnI_total b.1
    have e := ext_rounds cs ps (k + 1) d
    have := lets_pass cs (rounds cs ps k).2 (rounds_I cs ps k).1 e (by show (rounds cs ps (k + 1)).2 ≤ _; omega)
    simp only [dealt, q]
    exact this
end K84
namespace K84
open PySem PySem.Spec PyProof.Rows L2 L2H Vf
open SX (S)
theorem lt_big {x : Int} (h : x < 2 ^ 40) : Sm x := Int.lt_trans h (Int.pow_lt_pow_of_lt (by decide) (by decide))
theorem erase_perm {α : Type} : ∀ (l : List α) (i : Nat) (y : α), l[i]? = some y → (y :: l.eraseIdx i).Perm l
  | [], _, _, h => by simp at h
  | a :: l, 0, y, h => by simp at h; subst h; exact .refl _
  | a :: l, i + 1, y, h => by
    have h' := erase_perm l i y (by simpa using h)
    exact (List.Perm.swap a y _).trans (h'.cons a)
/-! shuffled -/
theorem app_eq {xs : List D} {y : D} (h : xs.length ≤ 10000000) : fApp (.lst xs) [y] = some (.lst (xs ++ [y]), .non) := if_pos (by rw [sizeLine_eq]; omega)
theorem popAt_eq {xs : List D} {v : Int} {y : D} (h0 : 0 ≤ v) (h : xs[v.toNat]? = some y) (hs : xs.length < 2 ^ 62) : fPopAt (.lst xs) [.int v] = some (.lst (xs.eraseIdx v.toNat), y) := by
  have hl := (List.getElem?_eq_some_iff.mp h).1
  have hq : seqIndex? v xs.length = some v.toNat := by
    unfold seqIndex?
    have z1 : ¬ v < 0 := by omega
    have z2 : v < (xs.length : Int) := by omega
    simp [z1, h0, z2]
  show (if Ok62 v = true then (match seqIndex? v xs.length with | some k => (match xs[k]? with | some y => some (D.lst (xs.eraseIdx k), y) | none => none) | none => none) else none) = _
  rw [if_pos (ok62_of (by omega)), hq]
  simp only [h]
theorem fList_lst {xs : List D} : fList [.lst xs] = some (.lst xs) := rfl
theorem shuffled_ok {n : Nat} {st : D} (R : List D) (xs : List D) (h : SOk n st) (hn : n + xs.length < 2 ^ 90) (hx : xs.length < 1000) : ∃ ys st', F_law_shuffled [.ref 0, .lst xs] (st :: R) = .new (.lst ys) (st' :: R) ∧ SOk (n + xs.length) st' ∧ ys.Perm xs := by
  generalize hq : F_law_shuffled [.ref 0, .lst xs] (st :: R) = q
  have hs0 : (xs.length : Nat) ≤ 10000000 := by omega
  simp only [q_mVar, q_mCst, q_oVal, q_oLoc, q_mOp2, q_bOf, q_bTru, q_bNot, q_bAnd, q_bOr, q_vAnd, q_vOr, q_vNot, q_mIte, q_mOr, q_aNil, q_aCons, q_aoNil, q_aoCons, q_mTup, q_nLst, q_iSeq, q_iSign, q_iR1, q_iR2, q_iEnumM, q_iRevM, q_iZipM, q_sNext, q_sSeq, q_sExpr, q_sRet, q_sRetN, q_sRetL, q_sIf, q_sSet, q_sSetN, q_sAsg, q_sFor, q_nLc, q_bYes, q_mCall, q_nCall, q_mMeth, q_mMeth0, q_mFld, q_mProp, q_nMake, q_pNone, q_pSome, q_mSl, q_mB, q_mRef, q_mMut, q_mMut0, q_mDGet, q_sPut, q_sFldP, q_sAug, q_mTx, q_mIsT, q_mInK, q_sRaise0, q_mExc, q_sTry, q_iScr, q_nDict, q_mNeg, q_mCallK, q_nCallK, Res.toS, Res.bind, Res.lift, Res.calm, resO, resL, CRes.toR, CRes.toN, CRes.toB, CRes.quiet, cellO, setE, setS, dLt, dLe, dGt, dGe, dAdd, iSub, dAddA, dEq, dNe, eqB, sEq, fInt, gNm, gTp, gsCons, gsNil, dTru, dIsN, dNotN, locAt, isLst, mutK, insC, List.getElem?_cons_zero, List.getElem?_cons_succ, List.set_cons_zero, List.set_cons_succ, List.length_cons, List.length_nil, List.length_set, Option.map_some, Option.map_none, Option.bind_some, if_true, if_false, decide_eq_true_eq, decide_true, decide_false, Nat.zero_lt_succ, Nat.reduceLT, Nat.reduceAdd, and_true, true_and, and_self, Bool.false_eq_true, List.map_cons, List.map_nil, List.cons_append, List.nil_append, List.replicate_succ, List.replicate_zero, Nat.reduceSub, List.append_nil, reduceCtorEq, reduceIte, ne_eq, not_false_eq_true, not_true_eq_false, List.tail_cons, List.head?_cons, sz_le, sz_lt, Nat.reduceLeDiff, Nat.zero_le, ok62_int, Int.reduceLE, Int.reduceNeg, Int.reduceToNat, Bool.and_self, F_law_shuffled, fnOf, ms_law_shuffled, env0, fList_lst, len_lst, ok62_nat hs0, Int.toNat_natCast] at hq
  generalize hL : loopF _ _ _ _ _ = L at hq
  obtain ⟨env', S', eL, st', left, out, x4, rfl, rfl, a1, a2, a3⟩ : ∃ env' S', L = .next env' S' ∧ ∃ st' left out x4, env' = [.val (.ref 0), .val (.lst xs), .loc (.lst left), .loc (.lst out), x4] ∧ S' = st' :: R ∧ SOk (n + xs.length) st' ∧
      left.length + xs.length = xs.length ∧ (out ++ left).Perm xs := by
    rw [← hL]
    refine loop_range (fun k env' S' => ∃ st' left out x4, env' = [.val (.ref 0), .val (.lst xs), .loc (.lst left), .loc (.lst out), x4] ∧ S' = st' :: R ∧ SOk (n + k) st' ∧ left.length + k = xs.length ∧ (out ++ left).Perm xs)
      ⟨st, xs, [], .none, rfl, rfl, h, by simp, by simp⟩ fun i env S1 hi hI => ?_
    obtain ⟨st', left, out, x4, rfl, rfl, a1, a2, a3⟩ := hI
    have hpl := a3.length_eq
    rw [List.length_append] at hpl
    have hb : Sm ((left.length : Nat) : Int) := lt_big (by omega)
    obtain ⟨v, st2, t1, t2, t3, t4, t5⟩ := take_ok R (left.length : Int) a1 (by omega) hb
    have hv : v < left.length := by
      by_cases q : (2 : Int) ≤ left.length
      · exact t4 q
      · have := t5 (by omega); omega
    obtain ⟨y, hy⟩ : ∃ y, left[v.toNat]? = some y := ⟨_, List.getElem?_eq_getElem (by omega)⟩
    have p1 := popAt_eq t3 hy (by omega)
    have p2 := app_eq (xs := out) (y := y) (by omega)
    refine ⟨_, _, by simp only [q_mVar, q_mCst, q_oVal, q_oLoc, q_mOp2, q_bOf, q_bTru, q_bNot, q_bAnd, q_bOr, q_vAnd, q_vOr, q_vNot, q_mIte, q_mOr, q_aNil, q_aCons, q_aoNil, q_aoCons, q_mTup, q_nLst, q_iSeq, q_iSign, q_iR1, q_iR2, q_iEnumM, q_iRevM, q_iZipM, q_sNext, q_sSeq, q_sExpr, q_sRet, q_sRetN, q_sRetL, q_sIf, q_sSet, q_sSetN, q_sAsg, q_sFor, q_nLc, q_bYes, q_mCall, q_nCall, q_mMeth, q_mMeth0, q_mFld, q_mProp, q_nMake, q_pNone, q_pSome, q_mSl, q_mB, q_mRef, q_mMut, q_mMut0, q_mDGet, q_sPut, q_sFldP, q_sAug, q_mTx, q_mIsT, q_mInK, q_sRaise0, q_mExc, q_sTry, q_iScr, q_nDict, q_mNeg, q_mCallK, q_nCallK, Res.toS, Res.bind, Res.lift, Res.calm, resO, resL, CRes.toR, CRes.toN, CRes.toB, CRes.quiet, cellO, setE, setS, dLt, dLe, dGt, dGe, dAdd, iSub, dAddA, dEq, dNe, eqB, sEq, fInt, gNm, gTp, gsCons, gsNil, dTru, dIsN, dNotN, locAt, isLst, mutK, insC, List.getElem?_cons_zero, List.getElem?_cons_succ, List.set_cons_zero, List.set_cons_succ, List.length_cons, List.length_nil, List.length_set, Option.map_some, Option.map_none, Option.bind_some, if_true, if_false, decide_eq_true_eq, decide_true, decide_false, Nat.zero_lt_succ, Nat.reduceLT, Nat.reduceAdd, and_true, true_and, and_self, Bool.false_eq_true, List.map_cons, List.map_nil, List.cons_append, List.nil_append, List.replicate_succ, List.replicate_zero, Nat.reduceSub, List.append_nil, reduceCtorEq, reduceIte, ne_eq, not_false_eq_true, not_true_eq_false, List.tail_cons, List.head?_cons, sz_le, sz_lt, Nat.reduceLeDiff, Nat.zero_le, ok62_int, Int.reduceLE, Int.reduceNeg, Int.reduceToNat, Bool.and_self, turnF, len_lst, t1, p1, p2] <;> rfl, st2, left.eraseIdx v.toNat, out ++ [y], _, rfl, rfl, t2, ?_, ?_⟩
    · rw [List.length_eraseIdx, if_pos (by omega)]; omega
    · have e1 := erase_perm left v.toNat y hy
      rw [List.append_assoc]
      exact (List.Perm.append_left out e1).trans a3
  have hleft : left = [] := List.length_eq_zero_iff.mp (by omega)
  subst hleft
  simp only [q_mVar, q_mCst, q_oVal, q_oLoc, q_mOp2, q_bOf, q_bTru, q_bNot, q_bAnd, q_bOr, q_vAnd, q_vOr, q_vNot, q_mIte, q_mOr, q_aNil, q_aCons, q_aoNil, q_aoCons, q_mTup, q_nLst, q_iSeq, q_iSign, q_iR1, q_iR2, q_iEnumM, q_iRevM, q_iZipM, q_sNext, q_sSeq, q_sExpr, q_sRet, q_sRetN, q_sRetL, q_sIf, q_sSet, q_sSetN, q_sAsg, q_sFor, q_nLc, q_bYes, q_mCall, q_nCall, q_mMeth, q_mMeth0, q_mFld, q_mProp, q_nMake, q_pNone, q_pSome, q_mSl, q_mB, q_mRef, q_mMut, q_mMut0, q_mDGet, q_sPut, q_sFldP, q_sAug, q_mTx, q_mIsT, q_mInK, q_sRaise0, q_mExc, q_sTry, q_iScr, q_nDict, q_mNeg, q_mCallK, q_nCallK, Res.toS, Res.bind, Res.lift, Res.calm, resO, resL, CRes.toR, CRes.toN, CRes.toB, CRes.quiet, cellO, setE, setS, dLt, dLe, dGt, dGe, dAdd, iSub, dAddA, dEq, dNe, eqB, sEq, fInt, gNm, gTp, gsCons, gsNil, dTru, dIsN, dNotN, locAt, isLst, mutK, insC, List.getElem?_cons_zero, List.getElem?_cons_succ, List.set_cons_zero, List.set_cons_succ, List.length_cons, List.length_nil, List.length_set, Option.map_some, Option.map_none, Option.bind_some, if_true, if_false, decide_eq_true_eq, decide_true, decide_false, Nat.zero_lt_succ, Nat.reduceLT, Nat.reduceAdd, and_true, true_and, and_self, Bool.false_eq_true, List.map_cons, List.map_nil, List.cons_append, List.nil_append, List.replicate_succ, List.replicate_zero, Nat.reduceSub, List.append_nil, reduceCtorEq, reduceIte, ne_eq, not_false_eq_true, not_true_eq_false, List.tail_cons, List.head?_cons, sz_le, sz_lt, Nat.reduceLeDiff, Nat.zero_le, ok62_int, Int.reduceLE, Int.reduceNeg, Int.reduceToNat, Bool.and_self, eL, len_lst] at hq
  subst hq
  exact ⟨out, st', rfl, a1, by simpa using a3⟩
/-! things -/
theorem gb_ix {k : Int} (h0 : 0 ≤ k) (h : k < 2) : ∃ c, dIx (.str "gb") (.int k) = some (.str (S [c])) ∧ (c = 103 ∨ c = 98) := by
  have e : ("gb" : Str) = S [103, 98] := by decide +kernel
  rw [e]
  obtain rfl | rfl : k = 0 ∨ k = 1 := by omega
  · exact ⟨103, ix_S (by decide) rfl (by decide), .inl rfl⟩
  · exact ⟨98, ix_S (by decide) rfl (by decide), .inr rfl⟩
theorem flat1 (cs : List Nat) : (cs.map fun c => [c]).flatten = cs := by
  induction cs with
  | nil => rfl
  | cons c cs ih => simp [ih]
theorem things_ok {n : Nat} {st : D} (R : List D) (m : Nat) (h : SOk n st) (hn : n + 1 + m < 2 ^ 90) (hm : m < 1000) : ∃ cs st', F_law_things [.ref 0, .int m] (st :: R) = .ok (.str (S cs)) (st' :: R) ∧ SOk (n + 1 + m) st' ∧ cs.length = m ∧ ∀ c ∈ cs, c = 103 ∨ c = 98 := by
  generalize hq : F_law_things [.ref 0, .int m] (st :: R) = q
  obtain ⟨v, st1, t1, t2, t3, t4, _⟩ := take_ok R 6 h (by omega) (lt_big (by decide))
  have t4 := t4 (by decide)
  simp only [q_mVar, q_mCst, q_oVal, q_oLoc, q_mOp2, q_bOf, q_bTru, q_bNot, q_bAnd, q_bOr, q_vAnd, q_vOr, q_vNot, q_mIte, q_mOr, q_aNil, q_aCons, q_aoNil, q_aoCons, q_mTup, q_nLst, q_iSeq, q_iSign, q_iR1, q_iR2, q_iEnumM, q_iRevM, q_iZipM, q_sNext, q_sSeq, q_sExpr, q_sRet, q_sRetN, q_sRetL, q_sIf, q_sSet, q_sSetN, q_sAsg, q_sFor, q_nLc, q_bYes, q_mCall, q_nCall, q_mMeth, q_mMeth0, q_mFld, q_mProp, q_nMake, q_pNone, q_pSome, q_mSl, q_mB, q_mRef, q_mMut, q_mMut0, q_mDGet, q_sPut, q_sFldP, q_sAug, q_mTx, q_mIsT, q_mInK, q_sRaise0, q_mExc, q_sTry, q_iScr, q_nDict, q_mNeg, q_mCallK, q_nCallK, Res.toS, Res.bind, Res.lift, Res.calm, resO, resL, CRes.toR, CRes.toN, CRes.toB, CRes.quiet, cellO, setE, setS, dLt, dLe, dGt, dGe, dAdd, iSub, dAddA, dEq, dNe, eqB, sEq, fInt, gNm, gTp, gsCons, gsNil, dTru, dIsN, dNotN, locAt, isLst, mutK, insC, List.getElem?_cons_zero, List.getElem?_cons_succ, List.set_cons_zero, List.set_cons_succ, List.length_cons, List.length_nil, List.length_set, Option.map_some, Option.map_none, Option.bind_some, if_true, if_false, decide_eq_true_eq, decide_true, decide_false, Nat.zero_lt_succ, Nat.reduceLT, Nat.reduceAdd, and_true, true_and, and_self, Bool.false_eq_true, List.map_cons, List.map_nil, List.cons_append, List.nil_append, List.replicate_succ, List.replicate_zero, Nat.reduceSub, List.append_nil, reduceCtorEq, reduceIte, ne_eq, not_false_eq_true, not_true_eq_false, List.tail_cons, List.head?_cons, sz_le, sz_lt, Nat.reduceLeDiff, Nat.zero_le, ok62_int, Int.reduceLE, Int.reduceNeg, Int.reduceToNat, Bool.and_self, F_law_things, fnOf, ms_law_things, env0, t1] at hq
  by_cases c0 : v < 2
  · obtain ⟨c, e1, e2⟩ := gb_ix t3 c0
    have e3 := mul_S (a := [c]) (n := m) (by simp; omega) (by omega)
    simp only [q_mVar, q_mCst, q_oVal, q_oLoc, q_mOp2, q_bOf, q_bTru, q_bNot, q_bAnd, q_bOr, q_vAnd, q_vOr, q_vNot, q_mIte, q_mOr, q_aNil, q_aCons, q_aoNil, q_aoCons, q_mTup, q_nLst, q_iSeq, q_iSign, q_iR1, q_iR2, q_iEnumM, q_iRevM, q_iZipM, q_sNext, q_sSeq, q_sExpr, q_sRet, q_sRetN, q_sRetL, q_sIf, q_sSet, q_sSetN, q_sAsg, q_sFor, q_nLc, q_bYes, q_mCall, q_nCall, q_mMeth, q_mMeth0, q_mFld, q_mProp, q_nMake, q_pNone, q_pSome, q_mSl, q_mB, q_mRef, q_mMut, q_mMut0, q_mDGet, q_sPut, q_sFldP, q_sAug, q_mTx, q_mIsT, q_mInK, q_sRaise0, q_mExc, q_sTry, q_iScr, q_nDict, q_mNeg, q_mCallK, q_nCallK, Res.toS, Res.bind, Res.lift, Res.calm, resO, resL, CRes.toR, CRes.toN, CRes.toB, CRes.quiet, cellO, setE, setS, dLt, dLe, dGt, dGe, dAdd, iSub, dAddA, dEq, dNe, eqB, sEq, fInt, gNm, gTp, gsCons, gsNil, dTru, dIsN, dNotN, locAt, isLst, mutK, insC, List.getElem?_cons_zero, List.getElem?_cons_succ, List.set_cons_zero, List.set_cons_succ, List.length_cons, List.length_nil, List.length_set, Option.map_some, Option.map_none, Option.bind_some, if_true, if_false, decide_eq_true_eq, decide_true, decide_false, Nat.zero_lt_succ, Nat.reduceLT, Nat.reduceAdd, and_true, true_and, and_self, Bool.false_eq_true, List.map_cons, List.map_nil, List.cons_append, List.nil_append, List.replicate_succ, List.replicate_zero, Nat.reduceSub, List.append_nil, reduceCtorEq, reduceIte, ne_eq, not_false_eq_true, not_true_eq_false, List.tail_cons, List.head?_cons, sz_le, sz_lt, Nat.reduceLeDiff, Nat.zero_le, ok62_int, Int.reduceLE, Int.reduceNeg, Int.reduceToNat, Bool.and_self, c0, e1, e3, rep1] at hq
    subst hq
    exact ⟨_, _, rfl, t2.mono (by omega), by simp, fun x hx => by rw [List.eq_of_mem_replicate hx]; exact e2⟩
  · simp only [q_mVar, q_mCst, q_oVal, q_oLoc, q_mOp2, q_bOf, q_bTru, q_bNot, q_bAnd, q_bOr, q_vAnd, q_vOr, q_vNot, q_mIte, q_mOr, q_aNil, q_aCons, q_aoNil, q_aoCons, q_mTup, q_nLst, q_iSeq, q_iSign, q_iR1, q_iR2, q_iEnumM, q_iRevM, q_iZipM, q_sNext, q_sSeq, q_sExpr, q_sRet, q_sRetN, q_sRetL, q_sIf, q_sSet, q_sSetN, q_sAsg, q_sFor, q_nLc, q_bYes, q_mCall, q_nCall, q_mMeth, q_mMeth0, q_mFld, q_mProp, q_nMake, q_pNone, q_pSome, q_mSl, q_mB, q_mRef, q_mMut, q_mMut0, q_mDGet, q_sPut, q_sFldP, q_sAug, q_mTx, q_mIsT, q_mInK, q_sRaise0, q_mExc, q_sTry, q_iScr, q_nDict, q_mNeg, q_mCallK, q_nCallK, Res.toS, Res.bind, Res.lift, Res.calm, resO, resL, CRes.toR, CRes.toN, CRes.toB, CRes.quiet, cellO, setE, setS, dLt, dLe, dGt, dGe, dAdd, iSub, dAddA, dEq, dNe, eqB, sEq, fInt, gNm, gTp, gsCons, gsNil, dTru, dIsN, dNotN, locAt, isLst, mutK, insC, List.getElem?_cons_zero, List.getElem?_cons_succ, List.set_cons_zero, List.set_cons_succ, List.length_cons, List.length_nil, List.length_set, Option.map_some, Option.map_none, Option.bind_some, if_true, if_false, decide_eq_true_eq, decide_true, decide_false, Nat.zero_lt_succ, Nat.reduceLT, Nat.reduceAdd, and_true, true_and, and_self, Bool.false_eq_true, List.map_cons, List.map_nil, List.cons_append, List.nil_append, List.replicate_succ, List.replicate_zero, Nat.reduceSub, List.append_nil, reduceCtorEq, reduceIte, ne_eq, not_false_eq_true, not_true_eq_false, List.tail_cons, List.head?_cons, sz_le, sz_lt, Nat.reduceLeDiff, Nat.zero_le, ok62_int, Int.reduceLE, Int.reduceNeg, Int.reduceToNat, Bool.and_self, c0, ok62_nat (show m ≤ 10000000 by omega), okVs, wipeE, List.all_cons, List.all_nil, Bool.and_true, Int.toNat_natCast] at hq
    generalize hL : lcF _ _ _ _ _ _ _ _ = L at hq
    obtain ⟨xs, env', S', eL, cs, st', rfl, rfl, rfl, a1, a2, a3⟩ : ∃ xs env' S', L = .ok xs env' S' ∧ ∃ (cs : List Nat) (st' : D), xs = cs.map (fun c => D.str (S [c])) ∧ env' = [.val (.ref 0), .val (.int m), .val (.int v), .none] ∧ S' = st' :: R ∧ SOk (n + 1 + m) st' ∧ cs.length = m ∧ ∀ c ∈ cs, c = 103 ∨ c = 98 := by
      rw [← hL]
      have := lcF_run (g := gNm 3) (vs := [3]) (t := bYes) (m := (mOp2 dIx (oVal (mCst (.str "gb"))) (oVal (mCall 2 F_law_take (aCons (mVar 0) (aCons (mCst (.int 2)) aNil))))))
        (fun k xs env' S' => ∃ (cs : List Nat) (st' : D), xs = cs.map (fun c => D.str (S [c])) ∧ env' = [.val (.ref 0), .val (.int m), .val (.int v), .none] ∧ S' = st' :: R ∧ SOk (n + 1 + k) st' ∧ cs.length = k ∧ ∀ c ∈ cs, c = 103 ∨ c = 98)
        (iOrd 0 m) [] 0 [.val (.ref 0), .val (.int m), .val (.int v), .none] (st1 :: R) ⟨[], st1, rfl, rfl, rfl, t2, rfl, by simp⟩ fun i d acc env S1 hd hI => ?_
      · rw [iOrd_len, Nat.zero_add] at this
        exact this
      · obtain ⟨cs, st', rfl, rfl, rfl, a1, a2, a3⟩ := hI
        obtain ⟨rfl, hi⟩ := iOrd_at hd
        rw [Nat.zero_add] at a1 a2
        obtain ⟨u, st2, u1, u2, u3, u4, _⟩ := take_ok R 2 a1 (by omega) (lt_big (by decide))
        obtain ⟨c, e1, e2⟩ := gb_ix u3 (u4 (by decide))
        refine ⟨_, rfl, true, _, _, rfl, fun z => (by cases z), fun _ => ⟨_, _, _, by simp only [q_mVar, q_mCst, q_oVal, q_oLoc, q_mOp2, q_bOf, q_bTru, q_bNot, q_bAnd, q_bOr, q_vAnd, q_vOr, q_vNot, q_mIte, q_mOr, q_aNil, q_aCons, q_aoNil, q_aoCons, q_mTup, q_nLst, q_iSeq, q_iSign, q_iR1, q_iR2, q_iEnumM, q_iRevM, q_iZipM, q_sNext, q_sSeq, q_sExpr, q_sRet, q_sRetN, q_sRetL, q_sIf, q_sSet, q_sSetN, q_sAsg, q_sFor, q_nLc, q_bYes, q_mCall, q_nCall, q_mMeth, q_mMeth0, q_mFld, q_mProp, q_nMake, q_pNone, q_pSome, q_mSl, q_mB, q_mRef, q_mMut, q_mMut0, q_mDGet, q_sPut, q_sFldP, q_sAug, q_mTx, q_mIsT, q_mInK, q_sRaise0, q_mExc, q_sTry, q_iScr, q_nDict, q_mNeg, q_mCallK, q_nCallK, Res.toS, Res.bind, Res.lift, Res.calm, resO, resL, CRes.toR, CRes.toN, CRes.toB, CRes.quiet, cellO, setE, setS, dLt, dLe, dGt, dGe, dAdd, iSub, dAddA, dEq, dNe, eqB, sEq, fInt, gNm, gTp, gsCons, gsNil, dTru, dIsN, dNotN, locAt, isLst, mutK, insC, List.getElem?_cons_zero, List.getElem?_cons_succ, List.set_cons_zero, List.set_cons_succ, List.length_cons, List.length_nil, List.length_set, Option.map_some, Option.map_none, Option.bind_some, if_true, if_false, decide_eq_true_eq, decide_true, decide_false, Nat.zero_lt_succ, Nat.reduceLT, Nat.reduceAdd, and_true, true_and, and_self, Bool.false_eq_true, List.map_cons, List.map_nil, List.cons_append, List.nil_append, List.replicate_succ, List.replicate_zero, Nat.reduceSub, List.append_nil, reduceCtorEq, reduceIte, ne_eq, not_false_eq_true, not_true_eq_false, List.tail_cons, List.head?_cons, sz_le, sz_lt, Nat.reduceLeDiff, Nat.zero_le, ok62_int, Int.reduceLE, Int.reduceNeg, Int.reduceToNat, Bool.and_self, u1, e1] <;> rfl, by rw [List.length_map, sizeLine_eq]; omega, cs ++ [c], st2, by simp, by simp only [q_mVar, q_mCst, q_oVal, q_oLoc, q_mOp2, q_bOf, q_bTru, q_bNot, q_bAnd, q_bOr, q_vAnd, q_vOr, q_vNot, q_mIte, q_mOr, q_aNil, q_aCons, q_aoNil, q_aoCons, q_mTup, q_nLst, q_iSeq, q_iSign, q_iR1, q_iR2, q_iEnumM, q_iRevM, q_iZipM, q_sNext, q_sSeq, q_sExpr, q_sRet, q_sRetN, q_sRetL, q_sIf, q_sSet, q_sSetN, q_sAsg, q_sFor, q_nLc, q_bYes, q_mCall, q_nCall, q_mMeth, q_mMeth0, q_mFld, q_mProp, q_nMake, q_pNone, q_pSome, q_mSl, q_mB, q_mRef, q_mMut, q_mMut0, q_mDGet, q_sPut, q_sFldP, q_sAug, q_mTx, q_mIsT, q_mInK, q_sRaise0, q_mExc, q_sTry, q_iScr, q_nDict, q_mNeg, q_mCallK, q_nCallK, Res.toS, Res.bind, Res.lift, Res.calm, resO, resL, CRes.toR, CRes.toN, CRes.toB, CRes.quiet, cellO, setE, setS, dLt, dLe, dGt, dGe, dAdd, iSub, dAddA, dEq, dNe, eqB, sEq, fInt, gNm, gTp, gsCons, gsNil, dTru, dIsN, dNotN, locAt, isLst, mutK, insC, List.getElem?_cons_zero, List.getElem?_cons_succ, List.set_cons_zero, List.set_cons_succ, List.length_cons, List.length_nil, List.length_set, Option.map_some, Option.map_none, Option.bind_some, if_true, if_false, decide_eq_true_eq, decide_true, decide_false, Nat.zero_lt_succ, Nat.reduceLT, Nat.reduceAdd, and_true, true_and, and_self, Bool.false_eq_true, List.map_cons, List.map_nil, List.cons_append, List.nil_append, List.replicate_succ, List.replicate_zero, Nat.reduceSub, List.append_nil, reduceCtorEq, reduceIte, ne_eq, not_false_eq_true, not_true_eq_false, List.tail_cons, List.head?_cons, sz_le, sz_lt, Nat.reduceLeDiff, Nat.zero_le, ok62_int, Int.reduceLE, Int.reduceNeg, Int.reduceToNat, Bool.and_self, wipeE], rfl, ?_, by simp; omega, ?_⟩⟩
        · rw [Nat.zero_add]; exact u2
        · intro x hx
          rcases List.mem_append.mp hx with q | q
          · exact a3 x q
          · rw [List.mem_singleton.mp q]; exact e2
    have j2 := flat1 cs
    have j := join_S0 (l := cs.map fun c => [c]) (by rw [j2]; omega)
    rw [List.map_map, j2] at j
    have j3 : ((fun c => D.str (S c)) ∘ fun c => [c]) = fun c => D.str (S [c]) := rfl
    rw [j3] at j
    have hem : ("" : Str) = S [] := emp_S
    simp only [q_mVar, q_mCst, q_oVal, q_oLoc, q_mOp2, q_bOf, q_bTru, q_bNot, q_bAnd, q_bOr, q_vAnd, q_vOr, q_vNot, q_mIte, q_mOr, q_aNil, q_aCons, q_aoNil, q_aoCons, q_mTup, q_nLst, q_iSeq, q_iSign, q_iR1, q_iR2, q_iEnumM, q_iRevM, q_iZipM, q_sNext, q_sSeq, q_sExpr, q_sRet, q_sRetN, q_sRetL, q_sIf, q_sSet, q_sSetN, q_sAsg, q_sFor, q_nLc, q_bYes, q_mCall, q_nCall, q_mMeth, q_mMeth0, q_mFld, q_mProp, q_nMake, q_pNone, q_pSome, q_mSl, q_mB, q_mRef, q_mMut, q_mMut0, q_mDGet, q_sPut, q_sFldP, q_sAug, q_mTx, q_mIsT, q_mInK, q_sRaise0, q_mExc, q_sTry, q_iScr, q_nDict, q_mNeg, q_mCallK, q_nCallK, Res.toS, Res.bind, Res.lift, Res.calm, resO, resL, CRes.toR, CRes.toN, CRes.toB, CRes.quiet, cellO, setE, setS, dLt, dLe, dGt, dGe, dAdd, iSub, dAddA, dEq, dNe, eqB, sEq, fInt, gNm, gTp, gsCons, gsNil, dTru, dIsN, dNotN, locAt, isLst, mutK, insC, List.getElem?_cons_zero, List.getElem?_cons_succ, List.set_cons_zero, List.set_cons_succ, List.length_cons, List.length_nil, List.length_set, Option.map_some, Option.map_none, Option.bind_some, if_true, if_false, decide_eq_true_eq, decide_true, decide_false, Nat.zero_lt_succ, Nat.reduceLT, Nat.reduceAdd, and_true, true_and, and_self, Bool.false_eq_true, List.map_cons, List.map_nil, List.cons_append, List.nil_append, List.replicate_succ, List.replicate_zero, Nat.reduceSub, List.append_nil, reduceCtorEq, reduceIte, ne_eq, not_false_eq_true, not_true_eq_false, List.tail_cons, List.head?_cons, sz_le, sz_lt, Nat.reduceLeDiff, Nat.zero_le, ok62_int, Int.reduceLE, Int.reduceNeg, Int.reduceToNat, Bool.and_self, eL, backE, hem, j] at hq
    subst hq
    exact ⟨cs, st', rfl, a1, a2, a3⟩
end K84
/-! M84b: rows of plans -/
namespace K84
def metP (rows : Rows) : Nat → Int → Prop
  | 0, x => x = 0
  | n + 1, x => x ∈ rowAt rows n ∨ x - 1 ∈ rowAt rows n
structure RowOk (rows : Rows) (n : Nat) (r : List Int) : Prop where
  ne : r ≠ []
  asc : r.Pairwise (· < ·)
  sub : ∀ x ∈ r, metP rows n x
def OkR (rows : Rows) : Prop := ∀ (n : Nat) (r : List Int), rows[n]? = some r → RowOk rows n r
theorem rowAt_snoc {rows : Rows} {r : List Int} {n : Nat} (h : n < rows.length) : rowAt (rows ++ [r]) n = rowAt rows n := by
  unfold rowAt; rw [List.getElem?_append_left h]
theorem rowAt_last {rows : Rows} {r : List Int} : rowAt (rows ++ [r]) rows.length = r := by
  unfold rowAt; rw [List.getElem?_append_right (Nat.le_refl _)]; simp
theorem metP_snoc {rows : Rows} {r : List Int} {n : Nat} (h : n ≤ rows.length) (x : Int) : metP (rows ++ [r]) n x ↔ metP rows n x := by
  cases n with
  | zero => exact Iff.rfl
  | succ n => simp only [metP]; rw [rowAt_snoc (by omega)]
theorem okR_nil : OkR [] := fun n r h => by simp at h
theorem okR_snoc {rows : Rows} {r : List Int} (h : OkR rows) (k : RowOk rows rows.length r) : OkR (rows ++ [r]) := by
  intro n s e
  by_cases hn : n < rows.length
  · rw [List.getElem?_append_left hn] at e
    obtain ⟨a, b, c⟩ := h n s e
    exact ⟨a, b, fun x hx => (metP_snoc (by omega) x).mpr (c x hx)⟩
  · have hl := (List.getElem?_eq_some_iff.mp e).1
    simp at hl
    have : n = rows.length := by omega
    subst this
    rw [List.getElem?_append_right (Nat.le_refl _)] at e
    simp at e
    subst e
    exact ⟨k.ne, k.asc, fun x hx => (metP_snoc (Nat.le_refl _) x).mpr (k.sub x hx)⟩
theorem okR_bnd {rows : Rows} (h : OkR rows) : ∀ (n : Nat) (x : Int), n ≤ rows.length → metP rows n x → 0 ≤ x ∧ x ≤ n
  | 0, x, _, hx => by simp only [metP] at hx; omega
  | n + 1, x, hl, hx => by
    have hr : rows[n]? = some (rowAt rows n) := by rw [rowAt_lt (by omega), List.getElem?_eq_getElem (by omega)]
    have k := h n _ hr
    simp only [metP] at hx
    rcases hx with hx | hx
    · have := okR_bnd h n x (by omega) (k.sub _ hx); omega
    · have := okR_bnd h n _ (by omega) (k.sub _ hx); omega
/-- what the drawing of rows keeps -/
structure GdI (rows : Rows) (goods : List Int) : Prop where
  ok : OkR rows
  asc : goods.Pairwise (· < ·)
  ne : goods ≠ []
  mem : ∀ x, x ∈ goods ↔ metP rows rows.length x
  len : goods.length ≤ rows.length + 1
theorem gdI_0 : GdI [] [0] := ⟨okR_nil, by simp, by simp, fun x => by simp [metP], by simp⟩
def nextG (k : Nat) (row : List Int) : List Int := ((List.range (k + 2)).filter fun (i : Nat) => decide ((0 + (i : Int)) ∈ row) || decide ((0 + (i : Int)) - 1 ∈ row)).map fun (i : Nat) => (0 + (i : Int))
theorem gdI_step {rows : Rows} {goods row : List Int} (h : GdI rows goods) (hs : row.Sublist goods) (ne : row ≠ []) : GdI (rows ++ [row]) (nextG rows.length row) := by
  have hb := okR_bnd h.ok rows.length
  have hm : ∀ x ∈ row, metP rows rows.length x := fun x hx => (h.mem x).mp (hs.subset hx)
  have mem : ∀ x, x ∈ nextG rows.length row ↔ metP (rows ++ [row]) (rows ++ [row]).length x := by
    intro x
    rw [List.length_append, List.length_singleton]
    simp only [metP, rowAt_last, nextG, List.mem_map, List.mem_filter, List.mem_range, Bool.or_eq_true, decide_eq_true_eq]
    constructor
    · rintro ⟨i, ⟨_, e⟩, rfl⟩; exact e
    · intro e
      have b : 0 ≤ x ∧ x < rows.length + 2 := by
        rcases e with e | e
        · have := hb _ (Nat.le_refl _) (hm _ e); omega
        · have := hb _ (Nat.le_refl _) (hm _ e); omega
      refine ⟨x.toNat, ⟨by omega, ?_⟩, by omega⟩
      have ex : (0 : Int) + (x.toNat : Int) = x := by omega
      rw [ex]; exact e
  refine ⟨okR_snoc h.ok ⟨ne, h.asc.sublist hs, hm⟩, ?_, ?_, mem, ?_⟩
  · unfold nextG
    rw [List.pairwise_map]
    refine List.Pairwise.imp (fun h => ?_) (List.Pairwise.sublist List.filter_sublist (List.pairwise_lt_range (n := rows.length + 2)))
    omega
  · obtain ⟨y, hy⟩ := List.exists_mem_of_ne_nil _ ne
    have : y ∈ nextG rows.length row := by
      rw [mem, List.length_append, List.length_singleton]
      simp only [metP, rowAt_last]
      exact .inl hy
    exact List.ne_nil_of_mem this
  · unfold nextG
    rw [List.length_map, List.length_append, List.length_singleton]
    exact Nat.le_trans (List.length_filter_le _ _) (by simp)
/-- the program's next reached places -/
def nextIn : List Int → List Int → List Int
  | out, [] => out
  | out, a :: r => nextIn ((if out = [] ∨ out.getLast? ≠ some a then out ++ [a] else out) ++ [a + 1]) r
theorem nextIn_mem : ∀ (r out : List Int) (x : Int), x ∈ nextIn out r ↔ x ∈ out ∨ x ∈ r ∨ x - 1 ∈ r
  | [], out, x => by simp [nextIn]
  | a :: r, out, x => by
    simp only [nextIn]
    rw [nextIn_mem r]
    have e : x - 1 = a ↔ x = a + 1 := by omega
    split
    · simp only [List.mem_append, List.mem_cons, List.not_mem_nil, or_false, e]
      constructor
      · rintro (((h | h) | h) | h | h)
        · exact .inl h
        · exact .inr (.inl (.inl h))
        · exact .inr (.inr (.inl h))
        · exact .inr (.inl (.inr h))
        · exact .inr (.inr (.inr h))
      · rintro (h | (h | h) | h | h)
        · exact .inl (.inl (.inl h))
        · exact .inl (.inl (.inr h))
        · exact .inr (.inl h)
        · exact .inl (.inr h)
        · exact .inr (.inr h)
    · rename_i q
      have q' : out.getLast? = some a := by
        apply Classical.byContradiction; intro z; exact q (.inr z)
      have : a ∈ out := List.mem_of_getLast? q'
      simp only [List.mem_append, List.mem_cons, List.not_mem_nil, or_false, e]
      constructor
      · rintro ((h | h) | h | h)
        · exact .inl h
        · exact .inr (.inr (.inl h))
        · exact .inr (.inl (.inr h))
        · exact .inr (.inr (.inr h))
      · rintro (h | (h | h) | h | h)
        · exact .inl (.inl h)
        · subst h; exact .inl (.inl this)
        · exact .inr (.inl h)
        · exact .inl (.inr h)
        · exact .inr (.inr h)
end K84
namespace K84
open PySem PySem.Spec PyProof.Rows L2 L2H Vf
open SX (S)
abbrev rowD (r : List Int) : D := .lst (r.map .int)
abbrev rowsD (rows : Rows) : D := .lst (rows.map rowD)
theorem plan_rows_ok {n : Nat} {st : D} (R : List D) (many : Nat) (plain : Bool) (h : SOk n st) (hm : many ≤ 12) (hn : n + 1000 < 2 ^ 90) : ∃ rows st', F_law_plan_rows [.ref 0, .int many, .bl plain] (st :: R) = .new (rowsD rows) (st' :: R) ∧ SOk (n + 20 * many) st' ∧ OkR rows ∧ rows.length = many := by
  generalize hq : F_law_plan_rows [.ref 0, .int many, .bl plain] (st :: R) = q
  simp only [q_mVar, q_mCst, q_oVal, q_oLoc, q_mOp2, q_bOf, q_bTru, q_bNot, q_bAnd, q_bOr, q_vAnd, q_vOr, q_vNot, q_mIte, q_mOr, q_aNil, q_aCons, q_aoNil, q_aoCons, q_mTup, q_nLst, q_iSeq, q_iSign, q_iR1, q_iR2, q_iEnumM, q_iRevM, q_iZipM, q_sNext, q_sSeq, q_sExpr, q_sRet, q_sRetN, q_sRetL, q_sIf, q_sSet, q_sSetN, q_sAsg, q_sFor, q_nLc, q_bYes, q_mCall, q_nCall, q_mMeth, q_mMeth0, q_mFld, q_mProp, q_nMake, q_pNone, q_pSome, q_mSl, q_mB, q_mRef, q_mMut, q_mMut0, q_mDGet, q_sPut, q_sFldP, q_sAug, q_mTx, q_mIsT, q_mInK, q_sRaise0, q_mExc, q_sTry, q_iScr, q_nDict, q_mNeg, q_mCallK, q_nCallK, Res.toS, Res.bind, Res.lift, Res.calm, resO, resL, CRes.toR, CRes.toN, CRes.toB, CRes.quiet, cellO, setE, setS, dLt, dLe, dGt, dGe, dAdd, iSub, dAddA, dEq, dNe, eqB, sEq, fInt, gNm, gTp, gsCons, gsNil, dTru, dIsN, dNotN, locAt, isLst, mutK, insC, List.getElem?_cons_zero, List.getElem?_cons_succ, List.set_cons_zero, List.set_cons_succ, List.length_cons, List.length_nil, List.length_set, Option.map_some, Option.map_none, Option.bind_some, if_true, if_false, decide_eq_true_eq, decide_true, decide_false, Nat.zero_lt_succ, Nat.reduceLT, Nat.reduceAdd, and_true, true_and, and_self, Bool.false_eq_true, List.map_cons, List.map_nil, List.cons_append, List.nil_append, List.replicate_succ, List.replicate_zero, Nat.reduceSub, List.append_nil, reduceCtorEq, reduceIte, ne_eq, not_false_eq_true, not_true_eq_false, List.tail_cons, List.head?_cons, sz_le, sz_lt, Nat.reduceLeDiff, Nat.zero_le, ok62_int, Int.reduceLE, Int.reduceNeg, Int.reduceToNat, Bool.and_self, Int.reduceLT, Int.natCast_zero, F_law_plan_rows, fnOf, ms_law_plan_rows, env0, ok62_nat (show many ≤ 10000000 by omega), Int.toNat_natCast] at hq
  generalize hL : loopF _ _ _ _ _ = L at hq
  obtain ⟨env', S', eL, rows, goods, st', x5, x6, rfl, rfl, a1, a2, a3⟩ : ∃ env' S', L = .next env' S' ∧ ∃ (rows : Rows) (goods : List Int) (st' : D) (x5 x6 : Vf.Slot), env' = [.val (.ref 0), .val (.int many), .val (.bl plain), .loc (rowsD rows), .val (rowD goods), x5, x6, .none] ∧ S' = st' :: R ∧ SOk (n + 20 * many) st' ∧ GdI rows goods ∧ rows.length = many := by
    rw [← hL]
    refine loop_range (fun k env' S' => ∃ (rows : Rows) (goods : List Int) (st' : D) (x5 x6 : Vf.Slot), env' = [.val (.ref 0), .val (.int many), .val (.bl plain), .loc (rowsD rows), .val (rowD goods), x5, x6, .none] ∧ S' = st' :: R ∧ SOk (n + 20 * k) st' ∧ GdI rows goods ∧ rows.length = k)
      ⟨[], [0], st, .none, .none, rfl, rfl, h, gdI_0, rfl⟩ fun k env S1 hk hI => ?_
    clear hL hq
    obtain ⟨rows, goods, st', x5, x6, rfl, rfl, a1, a2, a3⟩ := hI
    have hgl := a2.len
    generalize hw : turnF _ _ _ _ _ = w
    simp only [q_mVar, q_mCst, q_oVal, q_oLoc, q_mOp2, q_bOf, q_bTru, q_bNot, q_bAnd, q_bOr, q_vAnd, q_vOr, q_vNot, q_mIte, q_mOr, q_aNil, q_aCons, q_aoNil, q_aoCons, q_mTup, q_nLst, q_iSeq, q_iSign, q_iR1, q_iR2, q_iEnumM, q_iRevM, q_iZipM, q_sNext, q_sSeq, q_sExpr, q_sRet, q_sRetN, q_sRetL, q_sIf, q_sSet, q_sSetN, q_sAsg, q_sFor, q_nLc, q_bYes, q_mCall, q_nCall, q_mMeth, q_mMeth0, q_mFld, q_mProp, q_nMake, q_pNone, q_pSome, q_mSl, q_mB, q_mRef, q_mMut, q_mMut0, q_mDGet, q_sPut, q_sFldP, q_sAug, q_mTx, q_mIsT, q_mInK, q_sRaise0, q_mExc, q_sTry, q_iScr, q_nDict, q_mNeg, q_mCallK, q_nCallK, Res.toS, Res.bind, Res.lift, Res.calm, resO, resL, CRes.toR, CRes.toN, CRes.toB, CRes.quiet, cellO, setE, setS, dLt, dLe, dGt, dGe, dAdd, iSub, dAddA, dEq, dNe, eqB, sEq, fInt, gNm, gTp, gsCons, gsNil, dTru, dIsN, dNotN, locAt, isLst, mutK, insC, List.getElem?_cons_zero, List.getElem?_cons_succ, List.set_cons_zero, List.set_cons_succ, List.length_cons, List.length_nil, List.length_set, Option.map_some, Option.map_none, Option.bind_some, if_true, if_false, decide_eq_true_eq, decide_true, decide_false, Nat.zero_lt_succ, Nat.reduceLT, Nat.reduceAdd, and_true, true_and, and_self, Bool.false_eq_true, List.map_cons, List.map_nil, List.cons_append, List.nil_append, List.replicate_succ, List.replicate_zero, Nat.reduceSub, List.append_nil, reduceCtorEq, reduceIte, ne_eq, not_false_eq_true, not_true_eq_false, List.tail_cons, List.head?_cons, sz_le, sz_lt, Nat.reduceLeDiff, Nat.zero_le, ok62_int, Int.reduceLE, Int.reduceNeg, Int.reduceToNat, Bool.and_self, Int.reduceLT, Int.natCast_zero, turnF, okVs, wipeE, List.all_cons, List.all_nil, Bool.and_true] at hw
    generalize hL : lcF _ _ _ _ _ _ _ _ = L at hw
    obtain ⟨ys, env', S', eL, row, st2, rfl, b1, rfl, rfl, b2⟩ : ∃ ys env' S', L = .ok ys env' S' ∧ ∃ (row : List Int) (st2 : D), ys = row.map D.int ∧ row.Sublist (goods.take goods.length) ∧ env' = [.val (.ref 0), .val (.int many), .val (.bl plain), .loc (rowsD rows), .val (rowD goods), .val (.int (0 + (k : Int))), x6, .none] ∧ S' = st2 :: R ∧ SOk (n + 20 * k + goods.length) st2 := by
      rw [← hL]
      refine lc_map (fun i ys env' S' => ∃ (row : List Int) (st2 : D), ys = row.map D.int ∧ row.Sublist (goods.take i) ∧ env' = [.val (.ref 0), .val (.int many), .val (.bl plain), .loc (rowsD rows), .val (rowD goods), .val (.int (0 + (k : Int))), x6, .none] ∧ S' = st2 :: R ∧ SOk (n + 20 * k + i) st2)
        ⟨[], st', rfl, by simp, rfl, rfl, a1⟩ fun i x acc env S2 hx hI => ?_
      obtain ⟨row, st2, rfl, b1, rfl, rfl, b2⟩ := hI
      have hi := (List.getElem?_eq_some_iff.mp hx).1
      have htk : goods.take (i + 1) = goods.take i ++ [x] := by rw [List.take_add_one, hx]; rfl
      have hacc : (row.map D.int).length < sizeLine := by
        have h1 := b1.length_le
        rw [List.length_take] at h1
        rw [List.length_map, sizeLine_eq]; omega
      have sub1 : row.Sublist (goods.take (i + 1)) := by rw [htk]; exact b1.trans (List.sublist_append_left _ _)
      have sub2 : (row ++ [x]).Sublist (goods.take (i + 1)) := by rw [htk]; exact b1.append (List.Sublist.refl _)
      refine ⟨[.val (.ref 0), .val (.int many), .val (.bl plain), .loc (rowsD rows), .val (rowD goods), .val (.int (0 + (k : Int))), x6, .val (.int x)], rfl, ?_⟩
      cases plain with
      | true =>
        refine ⟨true, _, _, by simp only [q_mVar, q_mCst, q_oVal, q_oLoc, q_mOp2, q_bOf, q_bTru, q_bNot, q_bAnd, q_bOr, q_vAnd, q_vOr, q_vNot, q_mIte, q_mOr, q_aNil, q_aCons, q_aoNil, q_aoCons, q_mTup, q_nLst, q_iSeq, q_iSign, q_iR1, q_iR2, q_iEnumM, q_iRevM, q_iZipM, q_sNext, q_sSeq, q_sExpr, q_sRet, q_sRetN, q_sRetL, q_sIf, q_sSet, q_sSetN, q_sAsg, q_sFor, q_nLc, q_bYes, q_mCall, q_nCall, q_mMeth, q_mMeth0, q_mFld, q_mProp, q_nMake, q_pNone, q_pSome, q_mSl, q_mB, q_mRef, q_mMut, q_mMut0, q_mDGet, q_sPut, q_sFldP, q_sAug, q_mTx, q_mIsT, q_mInK, q_sRaise0, q_mExc, q_sTry, q_iScr, q_nDict, q_mNeg, q_mCallK, q_nCallK, Res.toS, Res.bind, Res.lift, Res.calm, resO, resL, CRes.toR, CRes.toN, CRes.toB, CRes.quiet, cellO, setE, setS, dLt, dLe, dGt, dGe, dAdd, iSub, dAddA, dEq, dNe, eqB, sEq, fInt, gNm, gTp, gsCons, gsNil, dTru, dIsN, dNotN, locAt, isLst, mutK, insC, List.getElem?_cons_zero, List.getElem?_cons_succ, List.set_cons_zero, List.set_cons_succ, List.length_cons, List.length_nil, List.length_set, Option.map_some, Option.map_none, Option.bind_some, if_true, if_false, decide_eq_true_eq, decide_true, decide_false, Nat.zero_lt_succ, Nat.reduceLT, Nat.reduceAdd, and_true, true_and, and_self, Bool.false_eq_true, List.map_cons, List.map_nil, List.cons_append, List.nil_append, List.replicate_succ, List.replicate_zero, Nat.reduceSub, List.append_nil, reduceCtorEq, reduceIte, ne_eq, not_false_eq_true, not_true_eq_false, List.tail_cons, List.head?_cons, sz_le, sz_lt, Nat.reduceLeDiff, Nat.zero_le, ok62_int, Int.reduceLE, Int.reduceNeg, Int.reduceToNat, Bool.and_self, Int.reduceLT, Int.natCast_zero] <;> rfl, fun z => (by cases z), fun _ => ⟨_, _, _, by simp only [q_mVar, q_mCst, q_oVal, q_oLoc, q_mOp2, q_bOf, q_bTru, q_bNot, q_bAnd, q_bOr, q_vAnd, q_vOr, q_vNot, q_mIte, q_mOr, q_aNil, q_aCons, q_aoNil, q_aoCons, q_mTup, q_nLst, q_iSeq, q_iSign, q_iR1, q_iR2, q_iEnumM, q_iRevM, q_iZipM, q_sNext, q_sSeq, q_sExpr, q_sRet, q_sRetN, q_sRetL, q_sIf, q_sSet, q_sSetN, q_sAsg, q_sFor, q_nLc, q_bYes, q_mCall, q_nCall, q_mMeth, q_mMeth0, q_mFld, q_mProp, q_nMake, q_pNone, q_pSome, q_mSl, q_mB, q_mRef, q_mMut, q_mMut0, q_mDGet, q_sPut, q_sFldP, q_sAug, q_mTx, q_mIsT, q_mInK, q_sRaise0, q_mExc, q_sTry, q_iScr, q_nDict, q_mNeg, q_mCallK, q_nCallK, Res.toS, Res.bind, Res.lift, Res.calm, resO, resL, CRes.toR, CRes.toN, CRes.toB, CRes.quiet, cellO, setE, setS, dLt, dLe, dGt, dGe, dAdd, iSub, dAddA, dEq, dNe, eqB, sEq, fInt, gNm, gTp, gsCons, gsNil, dTru, dIsN, dNotN, locAt, isLst, mutK, insC, List.getElem?_cons_zero, List.getElem?_cons_succ, List.set_cons_zero, List.set_cons_succ, List.length_cons, List.length_nil, List.length_set, Option.map_some, Option.map_none, Option.bind_some, if_true, if_false, decide_eq_true_eq, decide_true, decide_false, Nat.zero_lt_succ, Nat.reduceLT, Nat.reduceAdd, and_true, true_and, and_self, Bool.false_eq_true, List.map_cons, List.map_nil, List.cons_append, List.nil_append, List.replicate_succ, List.replicate_zero, Nat.reduceSub, List.append_nil, reduceCtorEq, reduceIte, ne_eq, not_false_eq_true, not_true_eq_false, List.tail_cons, List.head?_cons, sz_le, sz_lt, Nat.reduceLeDiff, Nat.zero_le, ok62_int, Int.reduceLE, Int.reduceNeg, Int.reduceToNat, Bool.and_self, Int.reduceLT, Int.natCast_zero] <;> rfl, hacc, row ++ [x], st2, by simp, sub2, by simp only [q_mVar, q_mCst, q_oVal, q_oLoc, q_mOp2, q_bOf, q_bTru, q_bNot, q_bAnd, q_bOr, q_vAnd, q_vOr, q_vNot, q_mIte, q_mOr, q_aNil, q_aCons, q_aoNil, q_aoCons, q_mTup, q_nLst, q_iSeq, q_iSign, q_iR1, q_iR2, q_iEnumM, q_iRevM, q_iZipM, q_sNext, q_sSeq, q_sExpr, q_sRet, q_sRetN, q_sRetL, q_sIf, q_sSet, q_sSetN, q_sAsg, q_sFor, q_nLc, q_bYes, q_mCall, q_nCall, q_mMeth, q_mMeth0, q_mFld, q_mProp, q_nMake, q_pNone, q_pSome, q_mSl, q_mB, q_mRef, q_mMut, q_mMut0, q_mDGet, q_sPut, q_sFldP, q_sAug, q_mTx, q_mIsT, q_mInK, q_sRaise0, q_mExc, q_sTry, q_iScr, q_nDict, q_mNeg, q_mCallK, q_nCallK, Res.toS, Res.bind, Res.lift, Res.calm, resO, resL, CRes.toR, CRes.toN, CRes.toB, CRes.quiet, cellO, setE, setS, dLt, dLe, dGt, dGe, dAdd, iSub, dAddA, dEq, dNe, eqB, sEq, fInt, gNm, gTp, gsCons, gsNil, dTru, dIsN, dNotN, locAt, isLst, mutK, insC, List.getElem?_cons_zero, List.getElem?_cons_succ, List.set_cons_zero, List.set_cons_succ, List.length_cons, List.length_nil, List.length_set, Option.map_some, Option.map_none, Option.bind_some, if_true, if_false, decide_eq_true_eq, decide_true, decide_false, Nat.zero_lt_succ, Nat.reduceLT, Nat.reduceAdd, and_true, true_and, and_self, Bool.false_eq_true, List.map_cons, List.map_nil, List.cons_append, List.nil_append, List.replicate_succ, List.replicate_zero, Nat.reduceSub, List.append_nil, reduceCtorEq, reduceIte, ne_eq, not_false_eq_true, not_true_eq_false, List.tail_cons, List.head?_cons, sz_le, sz_lt, Nat.reduceLeDiff, Nat.zero_le, ok62_int, Int.reduceLE, Int.reduceNeg, Int.reduceToNat, Bool.and_self, Int.reduceLT, Int.natCast_zero, wipeE], rfl, b2.mono (by omega)⟩⟩
      | false =>
        obtain ⟨v, st3, t1, t2, t3, t4, _⟩ := take_ok R 4 b2 (by omega) (lt_big (by decide))
        by_cases c : 0 < v
        · refine ⟨true, _, _, by simp only [q_mVar, q_mCst, q_oVal, q_oLoc, q_mOp2, q_bOf, q_bTru, q_bNot, q_bAnd, q_bOr, q_vAnd, q_vOr, q_vNot, q_mIte, q_mOr, q_aNil, q_aCons, q_aoNil, q_aoCons, q_mTup, q_nLst, q_iSeq, q_iSign, q_iR1, q_iR2, q_iEnumM, q_iRevM, q_iZipM, q_sNext, q_sSeq, q_sExpr, q_sRet, q_sRetN, q_sRetL, q_sIf, q_sSet, q_sSetN, q_sAsg, q_sFor, q_nLc, q_bYes, q_mCall, q_nCall, q_mMeth, q_mMeth0, q_mFld, q_mProp, q_nMake, q_pNone, q_pSome, q_mSl, q_mB, q_mRef, q_mMut, q_mMut0, q_mDGet, q_sPut, q_sFldP, q_sAug, q_mTx, q_mIsT, q_mInK, q_sRaise0, q_mExc, q_sTry, q_iScr, q_nDict, q_mNeg, q_mCallK, q_nCallK, Res.toS, Res.bind, Res.lift, Res.calm, resO, resL, CRes.toR, CRes.toN, CRes.toB, CRes.quiet, cellO, setE, setS, dLt, dLe, dGt, dGe, dAdd, iSub, dAddA, dEq, dNe, eqB, sEq, fInt, gNm, gTp, gsCons, gsNil, dTru, dIsN, dNotN, locAt, isLst, mutK, insC, List.getElem?_cons_zero, List.getElem?_cons_succ, List.set_cons_zero, List.set_cons_succ, List.length_cons, List.length_nil, List.length_set, Option.map_some, Option.map_none, Option.bind_some, if_true, if_false, decide_eq_true_eq, decide_true, decide_false, Nat.zero_lt_succ, Nat.reduceLT, Nat.reduceAdd, and_true, true_and, and_self, Bool.false_eq_true, List.map_cons, List.map_nil, List.cons_append, List.nil_append, List.replicate_succ, List.replicate_zero, Nat.reduceSub, List.append_nil, reduceCtorEq, reduceIte, ne_eq, not_false_eq_true, not_true_eq_false, List.tail_cons, List.head?_cons, sz_le, sz_lt, Nat.reduceLeDiff, Nat.zero_le, ok62_int, Int.reduceLE, Int.reduceNeg, Int.reduceToNat, Bool.and_self, Int.reduceLT, Int.natCast_zero, t1, c] <;> rfl, fun z => (by cases z), fun _ => ⟨_, _, _, by simp only [q_mVar, q_mCst, q_oVal, q_oLoc, q_mOp2, q_bOf, q_bTru, q_bNot, q_bAnd, q_bOr, q_vAnd, q_vOr, q_vNot, q_mIte, q_mOr, q_aNil, q_aCons, q_aoNil, q_aoCons, q_mTup, q_nLst, q_iSeq, q_iSign, q_iR1, q_iR2, q_iEnumM, q_iRevM, q_iZipM, q_sNext, q_sSeq, q_sExpr, q_sRet, q_sRetN, q_sRetL, q_sIf, q_sSet, q_sSetN, q_sAsg, q_sFor, q_nLc, q_bYes, q_mCall, q_nCall, q_mMeth, q_mMeth0, q_mFld, q_mProp, q_nMake, q_pNone, q_pSome, q_mSl, q_mB, q_mRef, q_mMut, q_mMut0, q_mDGet, q_sPut, q_sFldP, q_sAug, q_mTx, q_mIsT, q_mInK, q_sRaise0, q_mExc, q_sTry, q_iScr, q_nDict, q_mNeg, q_mCallK, q_nCallK, Res.toS, Res.bind, Res.lift, Res.calm, resO, resL, CRes.toR, CRes.toN, CRes.toB, CRes.quiet, cellO, setE, setS, dLt, dLe, dGt, dGe, dAdd, iSub, dAddA, dEq, dNe, eqB, sEq, fInt, gNm, gTp, gsCons, gsNil, dTru, dIsN, dNotN, locAt, isLst, mutK, insC, List.getElem?_cons_zero, List.getElem?_cons_succ, List.set_cons_zero, List.set_cons_succ, List.length_cons, List.length_nil, List.length_set, Option.map_some, Option.map_none, Option.bind_some, if_true, if_false, decide_eq_true_eq, decide_true, decide_false, Nat.zero_lt_succ, Nat.reduceLT, Nat.reduceAdd, and_true, true_and, and_self, Bool.false_eq_true, List.map_cons, List.map_nil, List.cons_append, List.nil_append, List.replicate_succ, List.replicate_zero, Nat.reduceSub, List.append_nil, reduceCtorEq, reduceIte, ne_eq, not_false_eq_true, not_true_eq_false, List.tail_cons, List.head?_cons, sz_le, sz_lt, Nat.reduceLeDiff, Nat.zero_le, ok62_int, Int.reduceLE, Int.reduceNeg, Int.reduceToNat, Bool.and_self, Int.reduceLT, Int.natCast_zero] <;> rfl, hacc, row ++ [x], st3, by simp, sub2, by simp only [q_mVar, q_mCst, q_oVal, q_oLoc, q_mOp2, q_bOf, q_bTru, q_bNot, q_bAnd, q_bOr, q_vAnd, q_vOr, q_vNot, q_mIte, q_mOr, q_aNil, q_aCons, q_aoNil, q_aoCons, q_mTup, q_nLst, q_iSeq, q_iSign, q_iR1, q_iR2, q_iEnumM, q_iRevM, q_iZipM, q_sNext, q_sSeq, q_sExpr, q_sRet, q_sRetN, q_sRetL, q_sIf, q_sSet, q_sSetN, q_sAsg, q_sFor, q_nLc, q_bYes, q_mCall, q_nCall, q_mMeth, q_mMeth0, q_mFld, q_mProp, q_nMake, q_pNone, q_pSome, q_mSl, q_mB, q_mRef, q_mMut, q_mMut0, q_mDGet, q_sPut, q_sFldP, q_sAug, q_mTx, q_mIsT, q_mInK, q_sRaise0, q_mExc, q_sTry, q_iScr, q_nDict, q_mNeg, q_mCallK, q_nCallK, Res.toS, Res.bind, Res.lift, Res.calm, resO, resL, CRes.toR, CRes.toN, CRes.toB, CRes.quiet, cellO, setE, setS, dLt, dLe, dGt, dGe, dAdd, iSub, dAddA, dEq, dNe, eqB, sEq, fInt, gNm, gTp, gsCons, gsNil, dTru, dIsN, dNotN, locAt, isLst, mutK, insC, List.getElem?_cons_zero, List.getElem?_cons_succ, List.set_cons_zero, List.set_cons_succ, List.length_cons, List.length_nil, List.length_set, Option.map_some, Option.map_none, Option.bind_some, if_true, if_false, decide_eq_true_eq, decide_true, decide_false, Nat.zero_lt_succ, Nat.reduceLT, Nat.reduceAdd, and_true, true_and, and_self, Bool.false_eq_true, List.map_cons, List.map_nil, List.cons_append, List.nil_append, List.replicate_succ, List.replicate_zero, Nat.reduceSub, List.append_nil, reduceCtorEq, reduceIte, ne_eq, not_false_eq_true, not_true_eq_false, List.tail_cons, List.head?_cons, sz_le, sz_lt, Nat.reduceLeDiff, Nat.zero_le, ok62_int, Int.reduceLE, Int.reduceNeg, Int.reduceToNat, Bool.and_self, Int.reduceLT, Int.natCast_zero, wipeE], rfl, t2⟩⟩
        · refine ⟨false, _, _, by simp only [q_mVar, q_mCst, q_oVal, q_oLoc, q_mOp2, q_bOf, q_bTru, q_bNot, q_bAnd, q_bOr, q_vAnd, q_vOr, q_vNot, q_mIte, q_mOr, q_aNil, q_aCons, q_aoNil, q_aoCons, q_mTup, q_nLst, q_iSeq, q_iSign, q_iR1, q_iR2, q_iEnumM, q_iRevM, q_iZipM, q_sNext, q_sSeq, q_sExpr, q_sRet, q_sRetN, q_sRetL, q_sIf, q_sSet, q_sSetN, q_sAsg, q_sFor, q_nLc, q_bYes, q_mCall, q_nCall, q_mMeth, q_mMeth0, q_mFld, q_mProp, q_nMake, q_pNone, q_pSome, q_mSl, q_mB, q_mRef, q_mMut, q_mMut0, q_mDGet, q_sPut, q_sFldP, q_sAug, q_mTx, q_mIsT, q_mInK, q_sRaise0, q_mExc, q_sTry, q_iScr, q_nDict, q_mNeg, q_mCallK, q_nCallK, Res.toS, Res.bind, Res.lift, Res.calm, resO, resL, CRes.toR, CRes.toN, CRes.toB, CRes.quiet, cellO, setE, setS, dLt, dLe, dGt, dGe, dAdd, iSub, dAddA, dEq, dNe, eqB, sEq, fInt, gNm, gTp, gsCons, gsNil, dTru, dIsN, dNotN, locAt, isLst, mutK, insC, List.getElem?_cons_zero, List.getElem?_cons_succ, List.set_cons_zero, List.set_cons_succ, List.length_cons, List.length_nil, List.length_set, Option.map_some, Option.map_none, Option.bind_some, if_true, if_false, decide_eq_true_eq, decide_true, decide_false, Nat.zero_lt_succ, Nat.reduceLT, Nat.reduceAdd, and_true, true_and, and_self, Bool.false_eq_true, List.map_cons, List.map_nil, List.cons_append, List.nil_append, List.replicate_succ, List.replicate_zero, Nat.reduceSub, List.append_nil, reduceCtorEq, reduceIte, ne_eq, not_false_eq_true, not_true_eq_false, List.tail_cons, List.head?_cons, sz_le, sz_lt, Nat.reduceLeDiff, Nat.zero_le, ok62_int, Int.reduceLE, Int.reduceNeg, Int.reduceToNat, Bool.and_self, Int.reduceLT, Int.natCast_zero, t1, c] <;> rfl, fun _ => ⟨row, st3, rfl, sub1, by simp only [q_mVar, q_mCst, q_oVal, q_oLoc, q_mOp2, q_bOf, q_bTru, q_bNot, q_bAnd, q_bOr, q_vAnd, q_vOr, q_vNot, q_mIte, q_mOr, q_aNil, q_aCons, q_aoNil, q_aoCons, q_mTup, q_nLst, q_iSeq, q_iSign, q_iR1, q_iR2, q_iEnumM, q_iRevM, q_iZipM, q_sNext, q_sSeq, q_sExpr, q_sRet, q_sRetN, q_sRetL, q_sIf, q_sSet, q_sSetN, q_sAsg, q_sFor, q_nLc, q_bYes, q_mCall, q_nCall, q_mMeth, q_mMeth0, q_mFld, q_mProp, q_nMake, q_pNone, q_pSome, q_mSl, q_mB, q_mRef, q_mMut, q_mMut0, q_mDGet, q_sPut, q_sFldP, q_sAug, q_mTx, q_mIsT, q_mInK, q_sRaise0, q_mExc, q_sTry, q_iScr, q_nDict, q_mNeg, q_mCallK, q_nCallK, Res.toS, Res.bind, Res.lift, Res.calm, resO, resL, CRes.toR, CRes.toN, CRes.toB, CRes.quiet, cellO, setE, setS, dLt, dLe, dGt, dGe, dAdd, iSub, dAddA, dEq, dNe, eqB, sEq, fInt, gNm, gTp, gsCons, gsNil, dTru, dIsN, dNotN, locAt, isLst, mutK, insC, List.getElem?_cons_zero, List.getElem?_cons_succ, List.set_cons_zero, List.set_cons_succ, List.length_cons, List.length_nil, List.length_set, Option.map_some, Option.map_none, Option.bind_some, if_true, if_false, decide_eq_true_eq, decide_true, decide_false, Nat.zero_lt_succ, Nat.reduceLT, Nat.reduceAdd, and_true, true_and, and_self, Bool.false_eq_true, List.map_cons, List.map_nil, List.cons_append, List.nil_append, List.replicate_succ, List.replicate_zero, Nat.reduceSub, List.append_nil, reduceCtorEq, reduceIte, ne_eq, not_false_eq_true, not_true_eq_false, List.tail_cons, List.head?_cons, sz_le, sz_lt, Nat.reduceLeDiff, Nat.zero_le, ok62_int, Int.reduceLE, Int.reduceNeg, Int.reduceToNat, Bool.and_self, Int.reduceLT, Int.natCast_zero, wipeE], rfl, t2⟩, fun z => (by cases z)⟩
    rw [List.take_length] at b1
    clear hL
    obtain ⟨v, st3, t1, t2, t3, t4, _⟩ := take_ok R 2 b2 (by omega) (lt_big (by decide))
    have t4 := t4 (by decide)
    have hrl := b1.length_le
    obtain ⟨i, e1, e2⟩ : ∃ i : Nat, dMul (.int (if (1 : Int) < ((row.map D.int).length : Int) then 1 else 0)) (.int v) = some (.int i) ∧ (i = 0 ∨ (i = 1 ∧ 1 < row.length)) := by
      rw [List.length_map]
      by_cases c : (1 : Int) < (row.length : Nat)
      · rw [if_pos c]
        obtain rfl | rfl : v = 0 ∨ v = 1 := by omega
        · exact ⟨0, rfl, .inl rfl⟩
        · exact ⟨1, rfl, .inr ⟨rfl, by omega⟩⟩
      · rw [if_neg c]
        obtain rfl | rfl : v = 0 ∨ v = 1 := by omega
        · exact ⟨0, rfl, .inl rfl⟩
        · exact ⟨0, rfl, .inl rfl⟩
    have e3 := slFrom_L (xs := row.map D.int) (i := i) (by rw [List.length_map]; omega)
    have hg1 : 1 ≤ goods.length := List.length_pos_iff.mpr a2.ne
    have e4 := slLast_L (xs := goods.map D.int) (by rw [List.length_map]; omega)
    have fin : ∀ row2 : List Int, row2.Sublist goods → row2 ≠ [] → lcF (gNm 7) [7] (bOr (bOf (mOp2 dIn (oLoc 7) (oLoc 6))) (bOf (mOp2 dIn (oVal (mOp2 iSub (oLoc 7) (oVal (mCst (.int 1))))) (oLoc 6)))) (mVar 7) (iOrd 0 (k + 2)) [] 
        [.val (.ref 0), .val (.int many), .val (.bl plain), .loc (.lst (rows.map rowD ++ [rowD row2])), .val (rowD goods), .val (.int (0 + (k : Int))), .val (rowD row2), .none] (st3 :: R) = .ok ((nextG k row2).map .int) [.val (.ref 0), .val (.int many), .val (.bl plain), .loc (.lst (rows.map rowD ++ [rowD row2])), .val (rowD goods), .val (.int (0 + (k : Int))), .val (rowD row2), .none] (st3 :: R) := by
      intro row2 _ _
      have := lc_ifT (g := gNm 7) (vs := [7]) (t := (bOr (bOf (mOp2 dIn (oLoc 7) (oLoc 6))) (bOf (mOp2 dIn (oVal (mOp2 iSub (oLoc 7) (oVal (mCst (.int 1))))) (oLoc 6))))) (m := mVar 7) (f := fun (i : Nat) => D.int (0 + (i : Int))) (h := fun (i : Nat) => D.int (0 + (i : Int))) (xs := List.range (k + 2))
        (env := [.val (.ref 0), .val (.int many), .val (.bl plain), .loc (.lst (rows.map rowD ++ [rowD row2])), .val (rowD goods), .val (.int (0 + (k : Int))), .val (rowD row2), .none]) (S := st3 :: R)
        (fun (i : Nat) => decide ((0 + (i : Int)) ∈ row2) || decide ((0 + (i : Int)) - 1 ∈ row2)) (by simp; omega) fun x hx => ?_
      · unfold nextG
        rw [List.map_map]
        exact this
      · refine ⟨_, _, rfl, (by
          by_cases c1 : (0 + (x : Int)) ∈ row2
          · simp only [q_mVar, q_mCst, q_oVal, q_oLoc, q_mOp2, q_bOf, q_bTru, q_bNot, q_bAnd, q_bOr, q_vAnd, q_vOr, q_vNot, q_mIte, q_mOr, q_aNil, q_aCons, q_aoNil, q_aoCons, q_mTup, q_nLst, q_iSeq, q_iSign, q_iR1, q_iR2, q_iEnumM, q_iRevM, q_iZipM, q_sNext, q_sSeq, q_sExpr, q_sRet, q_sRetN, q_sRetL, q_sIf, q_sSet, q_sSetN, q_sAsg, q_sFor, q_nLc, q_bYes, q_mCall, q_nCall, q_mMeth, q_mMeth0, q_mFld, q_mProp, q_nMake, q_pNone, q_pSome, q_mSl, q_mB, q_mRef, q_mMut, q_mMut0, q_mDGet, q_sPut, q_sFldP, q_sAug, q_mTx, q_mIsT, q_mInK, q_sRaise0, q_mExc, q_sTry, q_iScr, q_nDict, q_mNeg, q_mCallK, q_nCallK, Res.toS, Res.bind, Res.lift, Res.calm, resO, resL, CRes.toR, CRes.toN, CRes.toB, CRes.quiet, cellO, setE, setS, dLt, dLe, dGt, dGe, dAdd, iSub, dAddA, dEq, dNe, eqB, sEq, fInt, gNm, gTp, gsCons, gsNil, dTru, dIsN, dNotN, locAt, isLst, mutK, insC, List.getElem?_cons_zero, List.getElem?_cons_succ, List.set_cons_zero, List.set_cons_succ, List.length_cons, List.length_nil, List.length_set, Option.map_some, Option.map_none, Option.bind_some, if_true, if_false, decide_eq_true_eq, decide_true, decide_false, Nat.zero_lt_succ, Nat.reduceLT, Nat.reduceAdd, and_true, true_and, and_self, Bool.false_eq_true, List.map_cons, List.map_nil, List.cons_append, List.nil_append, List.replicate_succ, List.replicate_zero, Nat.reduceSub, List.append_nil, reduceCtorEq, reduceIte, ne_eq, not_false_eq_true, not_true_eq_false, List.tail_cons, List.head?_cons, sz_le, sz_lt, Nat.reduceLeDiff, Nat.zero_le, ok62_int, Int.reduceLE, Int.reduceNeg, Int.reduceToNat, Bool.and_self, Int.reduceLT, Int.natCast_zero, in_ints, c1, Bool.true_or] <;> rfl
          · simp only [q_mVar, q_mCst, q_oVal, q_oLoc, q_mOp2, q_bOf, q_bTru, q_bNot, q_bAnd, q_bOr, q_vAnd, q_vOr, q_vNot, q_mIte, q_mOr, q_aNil, q_aCons, q_aoNil, q_aoCons, q_mTup, q_nLst, q_iSeq, q_iSign, q_iR1, q_iR2, q_iEnumM, q_iRevM, q_iZipM, q_sNext, q_sSeq, q_sExpr, q_sRet, q_sRetN, q_sRetL, q_sIf, q_sSet, q_sSetN, q_sAsg, q_sFor, q_nLc, q_bYes, q_mCall, q_nCall, q_mMeth, q_mMeth0, q_mFld, q_mProp, q_nMake, q_pNone, q_pSome, q_mSl, q_mB, q_mRef, q_mMut, q_mMut0, q_mDGet, q_sPut, q_sFldP, q_sAug, q_mTx, q_mIsT, q_mInK, q_sRaise0, q_mExc, q_sTry, q_iScr, q_nDict, q_mNeg, q_mCallK, q_nCallK, Res.toS, Res.bind, Res.lift, Res.calm, resO, resL, CRes.toR, CRes.toN, CRes.toB, CRes.quiet, cellO, setE, setS, dLt, dLe, dGt, dGe, dAdd, iSub, dAddA, dEq, dNe, eqB, sEq, fInt, gNm, gTp, gsCons, gsNil, dTru, dIsN, dNotN, locAt, isLst, mutK, insC, List.getElem?_cons_zero, List.getElem?_cons_succ, List.set_cons_zero, List.set_cons_succ, List.length_cons, List.length_nil, List.length_set, Option.map_some, Option.map_none, Option.bind_some, if_true, if_false, decide_eq_true_eq, decide_true, decide_false, Nat.zero_lt_succ, Nat.reduceLT, Nat.reduceAdd, and_true, true_and, and_self, Bool.false_eq_true, List.map_cons, List.map_nil, List.cons_append, List.nil_append, List.replicate_succ, List.replicate_zero, Nat.reduceSub, List.append_nil, reduceCtorEq, reduceIte, ne_eq, not_false_eq_true, not_true_eq_false, List.tail_cons, List.head?_cons, sz_le, sz_lt, Nat.reduceLeDiff, Nat.zero_le, ok62_int, Int.reduceLE, Int.reduceNeg, Int.reduceToNat, Bool.and_self, Int.reduceLT, Int.natCast_zero, in_ints, c1, Bool.false_or] <;> rfl), fun _ => by simp only [q_mVar, q_mCst, q_oVal, q_oLoc, q_mOp2, q_bOf, q_bTru, q_bNot, q_bAnd, q_bOr, q_vAnd, q_vOr, q_vNot, q_mIte, q_mOr, q_aNil, q_aCons, q_aoNil, q_aoCons, q_mTup, q_nLst, q_iSeq, q_iSign, q_iR1, q_iR2, q_iEnumM, q_iRevM, q_iZipM, q_sNext, q_sSeq, q_sExpr, q_sRet, q_sRetN, q_sRetL, q_sIf, q_sSet, q_sSetN, q_sAsg, q_sFor, q_nLc, q_bYes, q_mCall, q_nCall, q_mMeth, q_mMeth0, q_mFld, q_mProp, q_nMake, q_pNone, q_pSome, q_mSl, q_mB, q_mRef, q_mMut, q_mMut0, q_mDGet, q_sPut, q_sFldP, q_sAug, q_mTx, q_mIsT, q_mInK, q_sRaise0, q_mExc, q_sTry, q_iScr, q_nDict, q_mNeg, q_mCallK, q_nCallK, Res.toS, Res.bind, Res.lift, Res.calm, resO, resL, CRes.toR, CRes.toN, CRes.toB, CRes.quiet, cellO, setE, setS, dLt, dLe, dGt, dGe, dAdd, iSub, dAddA, dEq, dNe, eqB, sEq, fInt, gNm, gTp, gsCons, gsNil, dTru, dIsN, dNotN, locAt, isLst, mutK, insC, List.getElem?_cons_zero, List.getElem?_cons_succ, List.set_cons_zero, List.set_cons_succ, List.length_cons, List.length_nil, List.length_set, Option.map_some, Option.map_none, Option.bind_some, if_true, if_false, decide_eq_true_eq, decide_true, decide_false, Nat.zero_lt_succ, Nat.reduceLT, Nat.reduceAdd, and_true, true_and, and_self, Bool.false_eq_true, List.map_cons, List.map_nil, List.cons_append, List.nil_append, List.replicate_succ, List.replicate_zero, Nat.reduceSub, List.append_nil, reduceCtorEq, reduceIte, ne_eq, not_false_eq_true, not_true_eq_false, List.tail_cons, List.head?_cons, sz_le, sz_lt, Nat.reduceLeDiff, Nat.zero_le, ok62_int, Int.reduceLE, Int.reduceNeg, Int.reduceToNat, Bool.and_self, Int.reduceLT, Int.natCast_zero, wipeE], fun _ => ⟨_, by simp only [q_mVar, q_mCst, q_oVal, q_oLoc, q_mOp2, q_bOf, q_bTru, q_bNot, q_bAnd, q_bOr, q_vAnd, q_vOr, q_vNot, q_mIte, q_mOr, q_aNil, q_aCons, q_aoNil, q_aoCons, q_mTup, q_nLst, q_iSeq, q_iSign, q_iR1, q_iR2, q_iEnumM, q_iRevM, q_iZipM, q_sNext, q_sSeq, q_sExpr, q_sRet, q_sRetN, q_sRetL, q_sIf, q_sSet, q_sSetN, q_sAsg, q_sFor, q_nLc, q_bYes, q_mCall, q_nCall, q_mMeth, q_mMeth0, q_mFld, q_mProp, q_nMake, q_pNone, q_pSome, q_mSl, q_mB, q_mRef, q_mMut, q_mMut0, q_mDGet, q_sPut, q_sFldP, q_sAug, q_mTx, q_mIsT, q_mInK, q_sRaise0, q_mExc, q_sTry, q_iScr, q_nDict, q_mNeg, q_mCallK, q_nCallK, Res.toS, Res.bind, Res.lift, Res.calm, resO, resL, CRes.toR, CRes.toN, CRes.toB, CRes.quiet, cellO, setE, setS, dLt, dLe, dGt, dGe, dAdd, iSub, dAddA, dEq, dNe, eqB, sEq, fInt, gNm, gTp, gsCons, gsNil, dTru, dIsN, dNotN, locAt, isLst, mutK, insC, List.getElem?_cons_zero, List.getElem?_cons_succ, List.set_cons_zero, List.set_cons_succ, List.length_cons, List.length_nil, List.length_set, Option.map_some, Option.map_none, Option.bind_some, if_true, if_false, decide_eq_true_eq, decide_true, decide_false, Nat.zero_lt_succ, Nat.reduceLT, Nat.reduceAdd, and_true, true_and, and_self, Bool.false_eq_true, List.map_cons, List.map_nil, List.cons_append, List.nil_append, List.replicate_succ, List.replicate_zero, Nat.reduceSub, List.append_nil, reduceCtorEq, reduceIte, ne_eq, not_false_eq_true, not_true_eq_false, List.tail_cons, List.head?_cons, sz_le, sz_lt, Nat.reduceLeDiff, Nat.zero_le, ok62_int, Int.reduceLE, Int.reduceNeg, Int.reduceToNat, Bool.and_self, Int.reduceLT, Int.natCast_zero] <;> rfl, by simp only [q_mVar, q_mCst, q_oVal, q_oLoc, q_mOp2, q_bOf, q_bTru, q_bNot, q_bAnd, q_bOr, q_vAnd, q_vOr, q_vNot, q_mIte, q_mOr, q_aNil, q_aCons, q_aoNil, q_aoCons, q_mTup, q_nLst, q_iSeq, q_iSign, q_iR1, q_iR2, q_iEnumM, q_iRevM, q_iZipM, q_sNext, q_sSeq, q_sExpr, q_sRet, q_sRetN, q_sRetL, q_sIf, q_sSet, q_sSetN, q_sAsg, q_sFor, q_nLc, q_bYes, q_mCall, q_nCall, q_mMeth, q_mMeth0, q_mFld, q_mProp, q_nMake, q_pNone, q_pSome, q_mSl, q_mB, q_mRef, q_mMut, q_mMut0, q_mDGet, q_sPut, q_sFldP, q_sAug, q_mTx, q_mIsT, q_mInK, q_sRaise0, q_mExc, q_sTry, q_iScr, q_nDict, q_mNeg, q_mCallK, q_nCallK, Res.toS, Res.bind, Res.lift, Res.calm, resO, resL, CRes.toR, CRes.toN, CRes.toB, CRes.quiet, cellO, setE, setS, dLt, dLe, dGt, dGe, dAdd, iSub, dAddA, dEq, dNe, eqB, sEq, fInt, gNm, gTp, gsCons, gsNil, dTru, dIsN, dNotN, locAt, isLst, mutK, insC, List.getElem?_cons_zero, List.getElem?_cons_succ, List.set_cons_zero, List.set_cons_succ, List.length_cons, List.length_nil, List.length_set, Option.map_some, Option.map_none, Option.bind_some, if_true, if_false, decide_eq_true_eq, decide_true, decide_false, Nat.zero_lt_succ, Nat.reduceLT, Nat.reduceAdd, and_true, true_and, and_self, Bool.false_eq_true, List.map_cons, List.map_nil, List.cons_append, List.nil_append, List.replicate_succ, List.replicate_zero, Nat.reduceSub, List.append_nil, reduceCtorEq, reduceIte, ne_eq, not_false_eq_true, not_true_eq_false, List.tail_cons, List.head?_cons, sz_le, sz_lt, Nat.reduceLeDiff, Nat.zero_le, ok62_int, Int.reduceLE, Int.reduceNeg, Int.reduceToNat, Bool.and_self, Int.reduceLT, Int.natCast_zero, wipeE]⟩⟩
    have hk2 : (0 + (k : Int) + 2) = ((k + 2 : Nat) : Int) := by omega
    have done : ∀ row2 : List Int, row2.Sublist goods → row2 ≠ [] → w = .next [.val (.ref 0), .val (.int many), .val (.bl plain), .loc (.lst (rows.map rowD ++ [rowD row2])), .val (.lst ((nextG k row2).map .int)), .val (.int (0 + (k : Int))), .val (rowD row2), .none] (st3 :: R) →
        ∃ env2 S2, w = .next env2 S2 ∧ ∃ (rows : Rows) (goods : List Int) (st' : D) (x5 x6 : Vf.Slot), env2 = [.val (.ref 0), .val (.int many), .val (.bl plain), .loc (rowsD rows), .val (rowD goods), x5, x6, .none] ∧ S2 = st' :: R ∧ SOk (n + 20 * (k + 1)) st' ∧ GdI rows goods ∧ rows.length = k + 1 := by
      intro row2 h1 h2 e
      have hg := gdI_step a2 h1 h2
      rw [a3] at hg
      exact ⟨_, _, e, rows ++ [row2], nextG k row2, st3, .val (.int (0 + (k : Int))), .val (rowD row2), by rw [rowsD, List.map_append]; rfl, rfl, t2.mono (by omega), hg, by simp [a3]⟩
    by_cases c0 : row.length = 0
    · have hr0 : row = [] := List.length_eq_zero_iff.mp c0
      subst hr0
      obtain rfl : i = 0 := by simp at e2; omega
      have hs1 : (goods.drop (goods.length - 1)).Sublist goods := List.drop_sublist _ _
      have hs2 : goods.drop (goods.length - 1) ≠ [] := by intro z; have := congrArg List.length z; simp at this; omega
      have hfin := fin _ hs1 hs2
      have m1 := mul_L1 (a := (goods.map D.int).drop ((goods.map D.int).length - 1)) (by simp; omega)
      have ad := add_L (a := ([] : List D)) (b := (goods.drop (goods.length - 1)).map D.int) (by simp; omega)
      have ap := app_eq (xs := rows.map rowD) (y := .lst ((goods.drop (goods.length - 1)).map D.int)) (by simp; omega)
      rw [List.nil_append] at ad
      rw [List.length_map, ← List.map_drop] at e4 m1
      have e3' : dSl (some 0) none (.lst []) = some (.lst []) := rfl
      have e1' : dMul (.int 0) (.int v) = some (.int 0) := by
        obtain rfl | rfl : v = 0 ∨ v = 1 := by omega
        · rfl
        · rfl
      refine done _ hs1 hs2 ?_
      simp only [q_mVar, q_mCst, q_oVal, q_oLoc, q_mOp2, q_bOf, q_bTru, q_bNot, q_bAnd, q_bOr, q_vAnd, q_vOr, q_vNot, q_mIte, q_mOr, q_aNil, q_aCons, q_aoNil, q_aoCons, q_mTup, q_nLst, q_iSeq, q_iSign, q_iR1, q_iR2, q_iEnumM, q_iRevM, q_iZipM, q_sNext, q_sSeq, q_sExpr, q_sRet, q_sRetN, q_sRetL, q_sIf, q_sSet, q_sSetN, q_sAsg, q_sFor, q_nLc, q_bYes, q_mCall, q_nCall, q_mMeth, q_mMeth0, q_mFld, q_mProp, q_nMake, q_pNone, q_pSome, q_mSl, q_mB, q_mRef, q_mMut, q_mMut0, q_mDGet, q_sPut, q_sFldP, q_sAug, q_mTx, q_mIsT, q_mInK, q_sRaise0, q_mExc, q_sTry, q_iScr, q_nDict, q_mNeg, q_mCallK, q_nCallK, Res.toS, Res.bind, Res.lift, Res.calm, resO, resL, CRes.toR, CRes.toN, CRes.toB, CRes.quiet, cellO, setE, setS, dLt, dLe, dGt, dGe, dAdd, iSub, dAddA, dEq, dNe, eqB, sEq, fInt, gNm, gTp, gsCons, gsNil, dTru, dIsN, dNotN, locAt, isLst, mutK, insC, List.getElem?_cons_zero, List.getElem?_cons_succ, List.set_cons_zero, List.set_cons_succ, List.length_cons, List.length_nil, List.length_set, Option.map_some, Option.map_none, Option.bind_some, if_true, if_false, decide_eq_true_eq, decide_true, decide_false, Nat.zero_lt_succ, Nat.reduceLT, Nat.reduceAdd, and_true, true_and, and_self, Bool.false_eq_true, List.map_cons, List.map_nil, List.cons_append, List.nil_append, List.replicate_succ, List.replicate_zero, Nat.reduceSub, List.append_nil, reduceCtorEq, reduceIte, ne_eq, not_false_eq_true, not_true_eq_false, List.tail_cons, List.head?_cons, sz_le, sz_lt, Nat.reduceLeDiff, Nat.zero_le, ok62_int, Int.reduceLE, Int.reduceNeg, Int.reduceToNat, Bool.and_self, Int.reduceLT, Int.natCast_zero, eL, backE, len_lst, t1, e1', e3', e4, m1, ad, ap, hk2, hfin, ok62_nat (show k + 2 ≤ 10000000 by omega), Int.toNat_natCast] at hw
      exact hw.symm
    · have c0' : ¬ ((row.map D.int).length : Int) = 0 := by rw [List.length_map]; omega
      have hs1 : (row.drop i).Sublist goods := (List.drop_sublist _ _).trans b1
      have hs2 : row.drop i ≠ [] := by intro z; have := congrArg List.length z; simp at this; omega
      have hfin := fin (row.drop i) hs1 hs2
      have m0 := mul_L0 (a := (goods.map D.int).drop ((goods.map D.int).length - 1))
      have ad := add_L (a := (row.map D.int).drop i) (b := []) (by simp; omega)
      have ap := app_eq (xs := rows.map rowD) (y := .lst (row.drop i |>.map D.int)) (by simp; omega)
      rw [List.append_nil, ← List.map_drop] at ad
      rw [← List.map_drop] at e3
      refine done _ hs1 hs2 ?_
      simp only [q_mVar, q_mCst, q_oVal, q_oLoc, q_mOp2, q_bOf, q_bTru, q_bNot, q_bAnd, q_bOr, q_vAnd, q_vOr, q_vNot, q_mIte, q_mOr, q_aNil, q_aCons, q_aoNil, q_aoCons, q_mTup, q_nLst, q_iSeq, q_iSign, q_iR1, q_iR2, q_iEnumM, q_iRevM, q_iZipM, q_sNext, q_sSeq, q_sExpr, q_sRet, q_sRetN, q_sRetL, q_sIf, q_sSet, q_sSetN, q_sAsg, q_sFor, q_nLc, q_bYes, q_mCall, q_nCall, q_mMeth, q_mMeth0, q_mFld, q_mProp, q_nMake, q_pNone, q_pSome, q_mSl, q_mB, q_mRef, q_mMut, q_mMut0, q_mDGet, q_sPut, q_sFldP, q_sAug, q_mTx, q_mIsT, q_mInK, q_sRaise0, q_mExc, q_sTry, q_iScr, q_nDict, q_mNeg, q_mCallK, q_nCallK, Res.toS, Res.bind, Res.lift, Res.calm, resO, resL, CRes.toR, CRes.toN, CRes.toB, CRes.quiet, cellO, setE, setS, dLt, dLe, dGt, dGe, dAdd, iSub, dAddA, dEq, dNe, eqB, sEq, fInt, gNm, gTp, gsCons, gsNil, dTru, dIsN, dNotN, locAt, isLst, mutK, insC, List.getElem?_cons_zero, List.getElem?_cons_succ, List.set_cons_zero, List.set_cons_succ, List.length_cons, List.length_nil, List.length_set, Option.map_some, Option.map_none, Option.bind_some, if_true, if_false, decide_eq_true_eq, decide_true, decide_false, Nat.zero_lt_succ, Nat.reduceLT, Nat.reduceAdd, and_true, true_and, and_self, Bool.false_eq_true, List.map_cons, List.map_nil, List.cons_append, List.nil_append, List.replicate_succ, List.replicate_zero, Nat.reduceSub, List.append_nil, reduceCtorEq, reduceIte, ne_eq, not_false_eq_true, not_true_eq_false, List.tail_cons, List.head?_cons, sz_le, sz_lt, Nat.reduceLeDiff, Nat.zero_le, ok62_int, Int.reduceLE, Int.reduceNeg, Int.reduceToNat, Bool.and_self, Int.reduceLT, Int.natCast_zero, eL, backE, len_lst, t1, e1, e3, e4, c0', m0, ad, ap, hk2, hfin, ok62_nat (show k + 2 ≤ 10000000 by omega), Int.toNat_natCast] at hw
      exact hw.symm
  simp only [q_mVar, q_mCst, q_oVal, q_oLoc, q_mOp2, q_bOf, q_bTru, q_bNot, q_bAnd, q_bOr, q_vAnd, q_vOr, q_vNot, q_mIte, q_mOr, q_aNil, q_aCons, q_aoNil, q_aoCons, q_mTup, q_nLst, q_iSeq, q_iSign, q_iR1, q_iR2, q_iEnumM, q_iRevM, q_iZipM, q_sNext, q_sSeq, q_sExpr, q_sRet, q_sRetN, q_sRetL, q_sIf, q_sSet, q_sSetN, q_sAsg, q_sFor, q_nLc, q_bYes, q_mCall, q_nCall, q_mMeth, q_mMeth0, q_mFld, q_mProp, q_nMake, q_pNone, q_pSome, q_mSl, q_mB, q_mRef, q_mMut, q_mMut0, q_mDGet, q_sPut, q_sFldP, q_sAug, q_mTx, q_mIsT, q_mInK, q_sRaise0, q_mExc, q_sTry, q_iScr, q_nDict, q_mNeg, q_mCallK, q_nCallK, Res.toS, Res.bind, Res.lift, Res.calm, resO, resL, CRes.toR, CRes.toN, CRes.toB, CRes.quiet, cellO, setE, setS, dLt, dLe, dGt, dGe, dAdd, iSub, dAddA, dEq, dNe, eqB, sEq, fInt, gNm, gTp, gsCons, gsNil, dTru, dIsN, dNotN, locAt, isLst, mutK, insC, List.getElem?_cons_zero, List.getElem?_cons_succ, List.set_cons_zero, List.set_cons_succ, List.length_cons, List.length_nil, List.length_set, Option.map_some, Option.map_none, Option.bind_some, if_true, if_false, decide_eq_true_eq, decide_true, decide_false, Nat.zero_lt_succ, Nat.reduceLT, Nat.reduceAdd, and_true, true_and, and_self, Bool.false_eq_true, List.map_cons, List.map_nil, List.cons_append, List.nil_append, List.replicate_succ, List.replicate_zero, Nat.reduceSub, List.append_nil, reduceCtorEq, reduceIte, ne_eq, not_false_eq_true, not_true_eq_false, List.tail_cons, List.head?_cons, sz_le, sz_lt, Nat.reduceLeDiff, Nat.zero_le, ok62_int, Int.reduceLE, Int.reduceNeg, Int.reduceToNat, Bool.and_self, Int.reduceLT, Int.natCast_zero, eL] at hq
  subst hq
  exact ⟨rows, st', rfl, a1, a2.ok, a3⟩
end K84
namespace K84
open PySem PySem.Spec PyProof.Rows L2 L2H Vf
open SX (S)
abbrev tupR (r : List Int) : D := .tup (r.map .int)
def metRow (rows : Rows) : Nat → List Int
  | 0 => [0]
  | n + 1 => nextIn [] (rowAt rows n)
theorem metRow_mem (rows : Rows) (n : Nat) (x : Int) : x ∈ metRow rows n ↔ metP rows n x := by
  cases n with
  | zero => simp [metRow, metP]
  | succ n => simp only [metRow, metP, nextIn_mem]; simp
def mets (rows : Rows) : List (List Int) := (List.range (rows.length + 1)).map (metRow rows)
abbrev pl (rows : Rows) : D := .ins "Plan" ["go_rows", "met_rows"] [.tup (rows.map tupR), .tup ((mets rows).map tupR)]
theorem row_at_ok (rows : Rows) (m : Int) (h : 0 ≤ m) (S : List D) : F_row_at [.tup (rows.map tupR), .int m] S = .ok (tupR (rowAt rows m.toNat)) S := by
  have hl : fLen [.tup (rows.map tupR)] = some (.int (rows.map tupR).length) := rfl
  by_cases c : m < ((rows.map tupR).length : Int)
  · have c' := c
    rw [List.length_map] at c'
    have e := ix_T (xs := rows.map tupR) (i := m) (x := tupR (rowAt rows m.toNat)) h (by rw [List.getElem?_map, List.getElem?_eq_getElem (by omega), rowAt_lt (by omega)]; rfl)
    simp only [q_mVar, q_mCst, q_oVal, q_oLoc, q_mOp2, q_bOf, q_bTru, q_bNot, q_bAnd, q_bOr, q_vAnd, q_vOr, q_vNot, q_mIte, q_mOr, q_aNil, q_aCons, q_aoNil, q_aoCons, q_mTup, q_nLst, q_iSeq, q_iSign, q_iR1, q_iR2, q_iEnumM, q_iRevM, q_iZipM, q_sNext, q_sSeq, q_sExpr, q_sRet, q_sRetN, q_sRetL, q_sIf, q_sSet, q_sSetN, q_sAsg, q_sFor, q_nLc, q_bYes, q_mCall, q_nCall, q_mMeth, q_mMeth0, q_mFld, q_mProp, q_nMake, q_pNone, q_pSome, q_mSl, q_mB, q_mRef, q_mMut, q_mMut0, q_mDGet, q_sPut, q_sFldP, q_sAug, q_mTx, q_mIsT, q_mInK, q_sRaise0, q_mExc, q_sTry, q_iScr, q_nDict, q_mNeg, q_mCallK, q_nCallK, Res.toS, Res.bind, Res.lift, Res.calm, resO, resL, CRes.toR, CRes.toN, CRes.toB, CRes.quiet, cellO, setE, setS, dLt, dLe, dGt, dGe, dAdd, iSub, dAddA, dEq, dNe, eqB, sEq, fInt, gNm, gTp, gsCons, gsNil, dTru, dIsN, dNotN, locAt, isLst, mutK, insC, List.getElem?_cons_zero, List.getElem?_cons_succ, List.set_cons_zero, List.set_cons_succ, List.length_cons, List.length_nil, List.length_set, Option.map_some, Option.map_none, Option.bind_some, if_true, if_false, decide_eq_true_eq, decide_true, decide_false, Nat.zero_lt_succ, Nat.reduceLT, Nat.reduceAdd, and_true, true_and, and_self, Bool.false_eq_true, List.map_cons, List.map_nil, List.cons_append, List.nil_append, List.replicate_succ, List.replicate_zero, Nat.reduceSub, List.append_nil, reduceCtorEq, reduceIte, ne_eq, not_false_eq_true, not_true_eq_false, List.tail_cons, List.head?_cons, sz_le, sz_lt, Nat.reduceLeDiff, Nat.zero_le, ok62_int, Int.reduceLE, Int.reduceNeg, Int.reduceToNat, Bool.and_self, Int.reduceLT, Int.natCast_zero, F_row_at, fnOf, ms_row_at, env0, hl, c, e]
  · have c' := c
    rw [List.length_map] at c'
    simp only [q_mVar, q_mCst, q_oVal, q_oLoc, q_mOp2, q_bOf, q_bTru, q_bNot, q_bAnd, q_bOr, q_vAnd, q_vOr, q_vNot, q_mIte, q_mOr, q_aNil, q_aCons, q_aoNil, q_aoCons, q_mTup, q_nLst, q_iSeq, q_iSign, q_iR1, q_iR2, q_iEnumM, q_iRevM, q_iZipM, q_sNext, q_sSeq, q_sExpr, q_sRet, q_sRetN, q_sRetL, q_sIf, q_sSet, q_sSetN, q_sAsg, q_sFor, q_nLc, q_bYes, q_mCall, q_nCall, q_mMeth, q_mMeth0, q_mFld, q_mProp, q_nMake, q_pNone, q_pSome, q_mSl, q_mB, q_mRef, q_mMut, q_mMut0, q_mDGet, q_sPut, q_sFldP, q_sAug, q_mTx, q_mIsT, q_mInK, q_sRaise0, q_mExc, q_sTry, q_iScr, q_nDict, q_mNeg, q_mCallK, q_nCallK, Res.toS, Res.bind, Res.lift, Res.calm, resO, resL, CRes.toR, CRes.toN, CRes.toB, CRes.quiet, cellO, setE, setS, dLt, dLe, dGt, dGe, dAdd, iSub, dAddA, dEq, dNe, eqB, sEq, fInt, gNm, gTp, gsCons, gsNil, dTru, dIsN, dNotN, locAt, isLst, mutK, insC, List.getElem?_cons_zero, List.getElem?_cons_succ, List.set_cons_zero, List.set_cons_succ, List.length_cons, List.length_nil, List.length_set, Option.map_some, Option.map_none, Option.bind_some, if_true, if_false, decide_eq_true_eq, decide_true, decide_false, Nat.zero_lt_succ, Nat.reduceLT, Nat.reduceAdd, and_true, true_and, and_self, Bool.false_eq_true, List.map_cons, List.map_nil, List.cons_append, List.nil_append, List.replicate_succ, List.replicate_zero, Nat.reduceSub, List.append_nil, reduceCtorEq, reduceIte, ne_eq, not_false_eq_true, not_true_eq_false, List.tail_cons, List.head?_cons, sz_le, sz_lt, Nat.reduceLeDiff, Nat.zero_le, ok62_int, Int.reduceLE, Int.reduceNeg, Int.reduceToNat, Bool.and_self, Int.reduceLT, Int.natCast_zero, F_row_at, fnOf, ms_row_at, env0, hl, c]
    rw [rowAt_ge (by omega)]
    rfl
theorem contains_ok (rows : Rows) (a b : Int) (h : 0 ≤ a + b) (S : List D) : F_Plan___contains__ [pl rows, .tup [.int a, .int b]] S = .ok (.bl (decide (a ∈ rowAt rows (a + b).toNat))) S := by
  have e := row_at_ok rows (a + b) h S
  have f : dFld "go_rows" ["Plan"] (pl rows) = some (.tup (rows.map tupR)) := rfl
  simp only [q_mVar, q_mCst, q_oVal, q_oLoc, q_mOp2, q_bOf, q_bTru, q_bNot, q_bAnd, q_bOr, q_vAnd, q_vOr, q_vNot, q_mIte, q_mOr, q_aNil, q_aCons, q_aoNil, q_aoCons, q_mTup, q_nLst, q_iSeq, q_iSign, q_iR1, q_iR2, q_iEnumM, q_iRevM, q_iZipM, q_sNext, q_sSeq, q_sExpr, q_sRet, q_sRetN, q_sRetL, q_sIf, q_sSet, q_sSetN, q_sAsg, q_sFor, q_nLc, q_bYes, q_mCall, q_nCall, q_mMeth, q_mMeth0, q_mFld, q_mProp, q_nMake, q_pNone, q_pSome, q_mSl, q_mB, q_mRef, q_mMut, q_mMut0, q_mDGet, q_sPut, q_sFldP, q_sAug, q_mTx, q_mIsT, q_mInK, q_sRaise0, q_mExc, q_sTry, q_iScr, q_nDict, q_mNeg, q_mCallK, q_nCallK, Res.toS, Res.bind, Res.lift, Res.calm, resO, resL, CRes.toR, CRes.toN, CRes.toB, CRes.quiet, cellO, setE, setS, dLt, dLe, dGt, dGe, dAdd, iSub, dAddA, dEq, dNe, eqB, sEq, fInt, gNm, gTp, gsCons, gsNil, dTru, dIsN, dNotN, locAt, isLst, mutK, insC, List.getElem?_cons_zero, List.getElem?_cons_succ, List.set_cons_zero, List.set_cons_succ, List.length_cons, List.length_nil, List.length_set, Option.map_some, Option.map_none, Option.bind_some, if_true, if_false, decide_eq_true_eq, decide_true, decide_false, Nat.zero_lt_succ, Nat.reduceLT, Nat.reduceAdd, and_true, true_and, and_self, Bool.false_eq_true, List.map_cons, List.map_nil, List.cons_append, List.nil_append, List.replicate_succ, List.replicate_zero, Nat.reduceSub, List.append_nil, reduceCtorEq, reduceIte, ne_eq, not_false_eq_true, not_true_eq_false, List.tail_cons, List.head?_cons, sz_le, sz_lt, Nat.reduceLeDiff, Nat.zero_le, ok62_int, Int.reduceLE, Int.reduceNeg, Int.reduceToNat, Bool.and_self, Int.reduceLT, Int.natCast_zero, F_Plan___contains__, fnOf, ms_Plan___contains__, env0, f, e, inT_ints]
theorem g_str : ("g" : Str) = S [103] := by decide +kernel
theorem eq_g (c : Nat) : (S [c] = S [103]) ↔ c = 103 := ⟨fun h => by have := SX.S_inj h; simpa using this, fun h => by rw [h]⟩
theorem stepped_ok (a b : Int) (c : Nat) (S' : List D) : F_stepped [.tup [.int a, .int b], .str (S [c])] S' = .ok (.tup [.int (a + gd c), .int (b + (1 - gd c))]) S' := by
  by_cases h : c = 103
  · have e := (eq_g c).mpr h
    simp only [q_mVar, q_mCst, q_oVal, q_oLoc, q_mOp2, q_bOf, q_bTru, q_bNot, q_bAnd, q_bOr, q_vAnd, q_vOr, q_vNot, q_mIte, q_mOr, q_aNil, q_aCons, q_aoNil, q_aoCons, q_mTup, q_nLst, q_iSeq, q_iSign, q_iR1, q_iR2, q_iEnumM, q_iRevM, q_iZipM, q_sNext, q_sSeq, q_sExpr, q_sRet, q_sRetN, q_sRetL, q_sIf, q_sSet, q_sSetN, q_sAsg, q_sFor, q_nLc, q_bYes, q_mCall, q_nCall, q_mMeth, q_mMeth0, q_mFld, q_mProp, q_nMake, q_pNone, q_pSome, q_mSl, q_mB, q_mRef, q_mMut, q_mMut0, q_mDGet, q_sPut, q_sFldP, q_sAug, q_mTx, q_mIsT, q_mInK, q_sRaise0, q_mExc, q_sTry, q_iScr, q_nDict, q_mNeg, q_mCallK, q_nCallK, Res.toS, Res.bind, Res.lift, Res.calm, resO, resL, CRes.toR, CRes.toN, CRes.toB, CRes.quiet, cellO, setE, setS, dLt, dLe, dGt, dGe, dAdd, iSub, dAddA, dEq, dNe, eqB, sEq, fInt, gNm, gTp, gsCons, gsNil, dTru, dIsN, dNotN, locAt, isLst, mutK, insC, List.getElem?_cons_zero, List.getElem?_cons_succ, List.set_cons_zero, List.set_cons_succ, List.length_cons, List.length_nil, List.length_set, Option.map_some, Option.map_none, Option.bind_some, if_true, if_false, decide_eq_true_eq, decide_true, decide_false, Nat.zero_lt_succ, Nat.reduceLT, Nat.reduceAdd, and_true, true_and, and_self, Bool.false_eq_true, List.map_cons, List.map_nil, List.cons_append, List.nil_append, List.replicate_succ, List.replicate_zero, Nat.reduceSub, List.append_nil, reduceCtorEq, reduceIte, ne_eq, not_false_eq_true, not_true_eq_false, List.tail_cons, List.head?_cons, sz_le, sz_lt, Nat.reduceLeDiff, Nat.zero_le, ok62_int, Int.reduceLE, Int.reduceNeg, Int.reduceToNat, Bool.and_self, Int.reduceLT, Int.natCast_zero, F_stepped, fnOf, ms_stepped, env0, g_str, e, gd, h, if_true]
    simp
  · have e : ¬ S [c] = S [103] := fun z => h ((eq_g c).mp z)
    simp only [q_mVar, q_mCst, q_oVal, q_oLoc, q_mOp2, q_bOf, q_bTru, q_bNot, q_bAnd, q_bOr, q_vAnd, q_vOr, q_vNot, q_mIte, q_mOr, q_aNil, q_aCons, q_aoNil, q_aoCons, q_mTup, q_nLst, q_iSeq, q_iSign, q_iR1, q_iR2, q_iEnumM, q_iRevM, q_iZipM, q_sNext, q_sSeq, q_sExpr, q_sRet, q_sRetN, q_sRetL, q_sIf, q_sSet, q_sSetN, q_sAsg, q_sFor, q_nLc, q_bYes, q_mCall, q_nCall, q_mMeth, q_mMeth0, q_mFld, q_mProp, q_nMake, q_pNone, q_pSome, q_mSl, q_mB, q_mRef, q_mMut, q_mMut0, q_mDGet, q_sPut, q_sFldP, q_sAug, q_mTx, q_mIsT, q_mInK, q_sRaise0, q_mExc, q_sTry, q_iScr, q_nDict, q_mNeg, q_mCallK, q_nCallK, Res.toS, Res.bind, Res.lift, Res.calm, resO, resL, CRes.toR, CRes.toN, CRes.toB, CRes.quiet, cellO, setE, setS, dLt, dLe, dGt, dGe, dAdd, iSub, dAddA, dEq, dNe, eqB, sEq, fInt, gNm, gTp, gsCons, gsNil, dTru, dIsN, dNotN, locAt, isLst, mutK, insC, List.getElem?_cons_zero, List.getElem?_cons_succ, List.set_cons_zero, List.set_cons_succ, List.length_cons, List.length_nil, List.length_set, Option.map_some, Option.map_none, Option.bind_some, if_true, if_false, decide_eq_true_eq, decide_true, decide_false, Nat.zero_lt_succ, Nat.reduceLT, Nat.reduceAdd, and_true, true_and, and_self, Bool.false_eq_true, List.map_cons, List.map_nil, List.cons_append, List.nil_append, List.replicate_succ, List.replicate_zero, Nat.reduceSub, List.append_nil, reduceCtorEq, reduceIte, ne_eq, not_false_eq_true, not_true_eq_false, List.tail_cons, List.head?_cons, sz_le, sz_lt, Nat.reduceLeDiff, Nat.zero_le, ok62_int, Int.reduceLE, Int.reduceNeg, Int.reduceToNat, Bool.and_self, Int.reduceLT, Int.natCast_zero, F_stepped, fnOf, ms_stepped, env0, g_str, e, gd, h, if_false]
    simp
theorem nextIn_app (r : List Int) : ∀ (k : Nat) (x : Int) (out : List Int), r[k]? = some x → nextIn out (r.take (k + 1)) = (if nextIn out (r.take k) = [] ∨ (nextIn out (r.take k)).getLast? ≠ some x then nextIn out (r.take k) ++ [x] else nextIn out (r.take k)) ++ [x + 1] := by
  induction r with
  | nil => intro k x out h; simp at h
  | cons a r ih =>
    intro k x out h
    cases k with
    | zero => simp at h; subst h; simp only [List.take_succ_cons, List.take_zero, nextIn]
    | succ k =>
      simp at h
      have := ih k x ((if out = [] ∨ out.getLast? ≠ some a then out ++ [a] else out) ++ [a + 1]) h
      simp only [List.take_succ_cons, nextIn] at this ⊢
      exact this
theorem nextIn_len : ∀ (r out : List Int), (nextIn out r).length ≤ out.length + 2 * r.length
  | [], out => by simp [nextIn]
  | a :: r, out => by
    have := nextIn_len r ((if out = [] ∨ out.getLast? ≠ some a then out ++ [a] else out) ++ [a + 1])
    simp only [nextIn, List.length_cons]
    split at this <;> simp_all <;> omega
theorem next_goods_ok (r : List Int) (hr : r.length ≤ 1000) (S : List D) : F_next_goods [rowD r] S = .ok (tupR (nextIn [] r)) S := by
  generalize hq : F_next_goods [rowD r] S = q
  simp only [q_mVar, q_mCst, q_oVal, q_oLoc, q_mOp2, q_bOf, q_bTru, q_bNot, q_bAnd, q_bOr, q_vAnd, q_vOr, q_vNot, q_mIte, q_mOr, q_aNil, q_aCons, q_aoNil, q_aoCons, q_mTup, q_nLst, q_iSeq, q_iSign, q_iR1, q_iR2, q_iEnumM, q_iRevM, q_iZipM, q_sNext, q_sSeq, q_sExpr, q_sRet, q_sRetN, q_sRetL, q_sIf, q_sSet, q_sSetN, q_sAsg, q_sFor, q_nLc, q_bYes, q_mCall, q_nCall, q_mMeth, q_mMeth0, q_mFld, q_mProp, q_nMake, q_pNone, q_pSome, q_mSl, q_mB, q_mRef, q_mMut, q_mMut0, q_mDGet, q_sPut, q_sFldP, q_sAug, q_mTx, q_mIsT, q_mInK, q_sRaise0, q_mExc, q_sTry, q_iScr, q_nDict, q_mNeg, q_mCallK, q_nCallK, Res.toS, Res.bind, Res.lift, Res.calm, resO, resL, CRes.toR, CRes.toN, CRes.toB, CRes.quiet, cellO, setE, setS, dLt, dLe, dGt, dGe, dAdd, iSub, dAddA, dEq, dNe, eqB, sEq, fInt, gNm, gTp, gsCons, gsNil, dTru, dIsN, dNotN, locAt, isLst, mutK, insC, List.getElem?_cons_zero, List.getElem?_cons_succ, List.set_cons_zero, List.set_cons_succ, List.length_cons, List.length_nil, List.length_set, Option.map_some, Option.map_none, Option.bind_some, if_true, if_false, decide_eq_true_eq, decide_true, decide_false, Nat.zero_lt_succ, Nat.reduceLT, Nat.reduceAdd, and_true, true_and, and_self, Bool.false_eq_true, List.map_cons, List.map_nil, List.cons_append, List.nil_append, List.replicate_succ, List.replicate_zero, Nat.reduceSub, List.append_nil, reduceCtorEq, reduceIte, ne_eq, not_false_eq_true, not_true_eq_false, List.tail_cons, List.head?_cons, sz_le, sz_lt, Nat.reduceLeDiff, Nat.zero_le, ok62_int, Int.reduceLE, Int.reduceNeg, Int.reduceToNat, Bool.and_self, Int.reduceLT, Int.natCast_zero, F_next_goods, fnOf, ms_next_goods, env0] at hq
  generalize hL : loopF _ _ _ _ _ = L at hq
  obtain ⟨env', S', eL, x2, rfl, rfl⟩ : ∃ env' S', L = .next env' S' ∧ ∃ x2, env' = [.val (rowD r), .loc (rowD (nextIn [] (r.take r.length))), x2] ∧ S' = S := by
    rw [← hL]
    refine loop_map (fun k env' S' => ∃ x2, env' = [.val (rowD r), .loc (rowD (nextIn [] (r.take k))), x2] ∧ S' = S) ⟨.none, by simp [nextIn], rfl⟩ fun k x env S1 hx hI => ?_
    obtain ⟨x2, rfl, rfl⟩ := hI
    have hk := (List.getElem?_eq_some_iff.mp hx).1
    have e := nextIn_app r k x [] hx
    have hl := nextIn_len (r.take k) []
    rw [List.length_take] at hl
    simp only [List.length_nil] at hl
    generalize ho : nextIn [] (r.take k) = out at e hl
    have p1 : ∀ y, fApp (.lst (out.map D.int)) [.int y] = some (.lst ((out ++ [y]).map D.int), .non) := fun y => by rw [app_eq (by rw [List.length_map]; omega)]; simp
    have p2 : ∀ y z, fApp (.lst ((out ++ [z]).map D.int)) [.int y] = some (.lst ((out ++ [z] ++ [y]).map D.int), .non) := fun y z => by rw [app_eq (by rw [List.length_map, List.length_append]; simp; omega)]; simp
    by_cases c0 : out = []
    · subst c0
      rw [if_pos (.inl rfl)] at e
      have t : ([] : List Int).map D.int = [] := rfl
      refine ⟨_, _, by simp only [q_mVar, q_mCst, q_oVal, q_oLoc, q_mOp2, q_bOf, q_bTru, q_bNot, q_bAnd, q_bOr, q_vAnd, q_vOr, q_vNot, q_mIte, q_mOr, q_aNil, q_aCons, q_aoNil, q_aoCons, q_mTup, q_nLst, q_iSeq, q_iSign, q_iR1, q_iR2, q_iEnumM, q_iRevM, q_iZipM, q_sNext, q_sSeq, q_sExpr, q_sRet, q_sRetN, q_sRetL, q_sIf, q_sSet, q_sSetN, q_sAsg, q_sFor, q_nLc, q_bYes, q_mCall, q_nCall, q_mMeth, q_mMeth0, q_mFld, q_mProp, q_nMake, q_pNone, q_pSome, q_mSl, q_mB, q_mRef, q_mMut, q_mMut0, q_mDGet, q_sPut, q_sFldP, q_sAug, q_mTx, q_mIsT, q_mInK, q_sRaise0, q_mExc, q_sTry, q_iScr, q_nDict, q_mNeg, q_mCallK, q_nCallK, Res.toS, Res.bind, Res.lift, Res.calm, resO, resL, CRes.toR, CRes.toN, CRes.toB, CRes.quiet, cellO, setE, setS, dLt, dLe, dGt, dGe, dAdd, iSub, dAddA, dEq, dNe, eqB, sEq, fInt, gNm, gTp, gsCons, gsNil, dTru, dIsN, dNotN, locAt, isLst, mutK, insC, List.getElem?_cons_zero, List.getElem?_cons_succ, List.set_cons_zero, List.set_cons_succ, List.length_cons, List.length_nil, List.length_set, Option.map_some, Option.map_none, Option.bind_some, if_true, if_false, decide_eq_true_eq, decide_true, decide_false, Nat.zero_lt_succ, Nat.reduceLT, Nat.reduceAdd, and_true, true_and, and_self, Bool.false_eq_true, List.map_cons, List.map_nil, List.cons_append, List.nil_append, List.replicate_succ, List.replicate_zero, Nat.reduceSub, List.append_nil, reduceCtorEq, reduceIte, ne_eq, not_false_eq_true, not_true_eq_false, List.tail_cons, List.head?_cons, sz_le, sz_lt, Nat.reduceLeDiff, Nat.zero_le, ok62_int, Int.reduceLE, Int.reduceNeg, Int.reduceToNat, Bool.and_self, Int.reduceLT, Int.natCast_zero, turnF, List.isEmpty_nil, Bool.not_true, Bool.not_false, p1, p2] <;> rfl, .val (.int x), by rw [e]; rfl, rfl⟩
    · obtain ⟨y, hy⟩ : ∃ y, out.getLast? = some y := by
        cases q : out.getLast? with
        | none => exact absurd (List.getLast?_eq_none_iff.mp q) c0
        | some y => exact ⟨y, rfl⟩
      have ne : (out.map D.int).isEmpty = false := by cases out with | nil => exact absurd rfl c0 | cons a b => rfl
      have il := ix_last (xs := out.map D.int) (x := .int y) (by rw [List.getLast?_map, hy]; rfl)
      by_cases c1 : y = x
      · subst c1
        rw [if_neg (by rw [hy]; simp [c0])] at e
        refine ⟨_, _, by simp only [q_mVar, q_mCst, q_oVal, q_oLoc, q_mOp2, q_bOf, q_bTru, q_bNot, q_bAnd, q_bOr, q_vAnd, q_vOr, q_vNot, q_mIte, q_mOr, q_aNil, q_aCons, q_aoNil, q_aoCons, q_mTup, q_nLst, q_iSeq, q_iSign, q_iR1, q_iR2, q_iEnumM, q_iRevM, q_iZipM, q_sNext, q_sSeq, q_sExpr, q_sRet, q_sRetN, q_sRetL, q_sIf, q_sSet, q_sSetN, q_sAsg, q_sFor, q_nLc, q_bYes, q_mCall, q_nCall, q_mMeth, q_mMeth0, q_mFld, q_mProp, q_nMake, q_pNone, q_pSome, q_mSl, q_mB, q_mRef, q_mMut, q_mMut0, q_mDGet, q_sPut, q_sFldP, q_sAug, q_mTx, q_mIsT, q_mInK, q_sRaise0, q_mExc, q_sTry, q_iScr, q_nDict, q_mNeg, q_mCallK, q_nCallK, Res.toS, Res.bind, Res.lift, Res.calm, resO, resL, CRes.toR, CRes.toN, CRes.toB, CRes.quiet, cellO, setE, setS, dLt, dLe, dGt, dGe, dAdd, iSub, dAddA, dEq, dNe, eqB, sEq, fInt, gNm, gTp, gsCons, gsNil, dTru, dIsN, dNotN, locAt, isLst, mutK, insC, List.getElem?_cons_zero, List.getElem?_cons_succ, List.set_cons_zero, List.set_cons_succ, List.length_cons, List.length_nil, List.length_set, Option.map_some, Option.map_none, Option.bind_some, if_true, if_false, decide_eq_true_eq, decide_true, decide_false, Nat.zero_lt_succ, Nat.reduceLT, Nat.reduceAdd, and_true, true_and, and_self, Bool.false_eq_true, List.map_cons, List.map_nil, List.cons_append, List.nil_append, List.replicate_succ, List.replicate_zero, Nat.reduceSub, List.append_nil, reduceCtorEq, reduceIte, ne_eq, not_false_eq_true, not_true_eq_false, List.tail_cons, List.head?_cons, sz_le, sz_lt, Nat.reduceLeDiff, Nat.zero_le, ok62_int, Int.reduceLE, Int.reduceNeg, Int.reduceToNat, Bool.and_self, Int.reduceLT, Int.natCast_zero, turnF, ne, il, Bool.not_true, Bool.not_false, p1, p2] <;> rfl, .val (.int y), by rw [e], rfl⟩
      · rw [if_pos (.inr (by rw [hy]; simp [c1]))] at e
        refine ⟨_, _, by simp only [q_mVar, q_mCst, q_oVal, q_oLoc, q_mOp2, q_bOf, q_bTru, q_bNot, q_bAnd, q_bOr, q_vAnd, q_vOr, q_vNot, q_mIte, q_mOr, q_aNil, q_aCons, q_aoNil, q_aoCons, q_mTup, q_nLst, q_iSeq, q_iSign, q_iR1, q_iR2, q_iEnumM, q_iRevM, q_iZipM, q_sNext, q_sSeq, q_sExpr, q_sRet, q_sRetN, q_sRetL, q_sIf, q_sSet, q_sSetN, q_sAsg, q_sFor, q_nLc, q_bYes, q_mCall, q_nCall, q_mMeth, q_mMeth0, q_mFld, q_mProp, q_nMake, q_pNone, q_pSome, q_mSl, q_mB, q_mRef, q_mMut, q_mMut0, q_mDGet, q_sPut, q_sFldP, q_sAug, q_mTx, q_mIsT, q_mInK, q_sRaise0, q_mExc, q_sTry, q_iScr, q_nDict, q_mNeg, q_mCallK, q_nCallK, Res.toS, Res.bind, Res.lift, Res.calm, resO, resL, CRes.toR, CRes.toN, CRes.toB, CRes.quiet, cellO, setE, setS, dLt, dLe, dGt, dGe, dAdd, iSub, dAddA, dEq, dNe, eqB, sEq, fInt, gNm, gTp, gsCons, gsNil, dTru, dIsN, dNotN, locAt, isLst, mutK, insC, List.getElem?_cons_zero, List.getElem?_cons_succ, List.set_cons_zero, List.set_cons_succ, List.length_cons, List.length_nil, List.length_set, Option.map_some, Option.map_none, Option.bind_some, if_true, if_false, decide_eq_true_eq, decide_true, decide_false, Nat.zero_lt_succ, Nat.reduceLT, Nat.reduceAdd, and_true, true_and, and_self, Bool.false_eq_true, List.map_cons, List.map_nil, List.cons_append, List.nil_append, List.replicate_succ, List.replicate_zero, Nat.reduceSub, List.append_nil, reduceCtorEq, reduceIte, ne_eq, not_false_eq_true, not_true_eq_false, List.tail_cons, List.head?_cons, sz_le, sz_lt, Nat.reduceLeDiff, Nat.zero_le, ok62_int, Int.reduceLE, Int.reduceNeg, Int.reduceToNat, Bool.and_self, Int.reduceLT, Int.natCast_zero, turnF, ne, il, c1, Bool.not_true, Bool.not_false, p1, p2] <;> rfl, .val (.int x), by rw [e], rfl⟩
  have hf : fTuple [rowD (nextIn [] (r.take r.length))] = some (tupR (nextIn [] (r.take r.length))) := rfl
  simp only [q_mVar, q_mCst, q_oVal, q_oLoc, q_mOp2, q_bOf, q_bTru, q_bNot, q_bAnd, q_bOr, q_vAnd, q_vOr, q_vNot, q_mIte, q_mOr, q_aNil, q_aCons, q_aoNil, q_aoCons, q_mTup, q_nLst, q_iSeq, q_iSign, q_iR1, q_iR2, q_iEnumM, q_iRevM, q_iZipM, q_sNext, q_sSeq, q_sExpr, q_sRet, q_sRetN, q_sRetL, q_sIf, q_sSet, q_sSetN, q_sAsg, q_sFor, q_nLc, q_bYes, q_mCall, q_nCall, q_mMeth, q_mMeth0, q_mFld, q_mProp, q_nMake, q_pNone, q_pSome, q_mSl, q_mB, q_mRef, q_mMut, q_mMut0, q_mDGet, q_sPut, q_sFldP, q_sAug, q_mTx, q_mIsT, q_mInK, q_sRaise0, q_mExc, q_sTry, q_iScr, q_nDict, q_mNeg, q_mCallK, q_nCallK, Res.toS, Res.bind, Res.lift, Res.calm, resO, resL, CRes.toR, CRes.toN, CRes.toB, CRes.quiet, cellO, setE, setS, dLt, dLe, dGt, dGe, dAdd, iSub, dAddA, dEq, dNe, eqB, sEq, fInt, gNm, gTp, gsCons, gsNil, dTru, dIsN, dNotN, locAt, isLst, mutK, insC, List.getElem?_cons_zero, List.getElem?_cons_succ, List.set_cons_zero, List.set_cons_succ, List.length_cons, List.length_nil, List.length_set, Option.map_some, Option.map_none, Option.bind_some, if_true, if_false, decide_eq_true_eq, decide_true, decide_false, Nat.zero_lt_succ, Nat.reduceLT, Nat.reduceAdd, and_true, true_and, and_self, Bool.false_eq_true, List.map_cons, List.map_nil, List.cons_append, List.nil_append, List.replicate_succ, List.replicate_zero, Nat.reduceSub, List.append_nil, reduceCtorEq, reduceIte, ne_eq, not_false_eq_true, not_true_eq_false, List.tail_cons, List.head?_cons, sz_le, sz_lt, Nat.reduceLeDiff, Nat.zero_le, ok62_int, Int.reduceLE, Int.reduceNeg, Int.reduceToNat, Bool.and_self, Int.reduceLT, Int.natCast_zero, eL, hf] at hq
  subst hq
  rw [List.take_length]
theorem asc_get {r : List Int} (h : r.Pairwise (· < ·)) {i j : Nat} {x y : Int} (hi : r[i]? = some x) (hj : r[j]? = some y) (hij : i < j) : x < y := by
  obtain ⟨h1, e1⟩ := List.getElem?_eq_some_iff.mp hi
  obtain ⟨h2, e2⟩ := List.getElem?_eq_some_iff.mp hj
  have := List.pairwise_iff_getElem.mp h i j h1 h2 hij
  rw [e1, e2] at this; exact this
theorem good_row_ok (r g : List Int) (ne : r ≠ []) (asc : r.Pairwise (· < ·)) (sub : ∀ x ∈ r, x ∈ g) (S : List D) : F_good_row [rowD r, tupR g] S = .ok (.bl true) S := by
  generalize hq : F_good_row [rowD r, tupR g] S = q
  have ne' : (r.map D.int).isEmpty = false := by cases r with | nil => exact absurd rfl ne | cons a b => rfl
  simp only [q_mVar, q_mCst, q_oVal, q_oLoc, q_mOp2, q_bOf, q_bTru, q_bNot, q_bAnd, q_bOr, q_vAnd, q_vOr, q_vNot, q_mIte, q_mOr, q_aNil, q_aCons, q_aoNil, q_aoCons, q_mTup, q_nLst, q_iSeq, q_iSign, q_iR1, q_iR2, q_iEnumM, q_iRevM, q_iZipM, q_sNext, q_sSeq, q_sExpr, q_sRet, q_sRetN, q_sRetL, q_sIf, q_sSet, q_sSetN, q_sAsg, q_sFor, q_nLc, q_bYes, q_mCall, q_nCall, q_mMeth, q_mMeth0, q_mFld, q_mProp, q_nMake, q_pNone, q_pSome, q_mSl, q_mB, q_mRef, q_mMut, q_mMut0, q_mDGet, q_sPut, q_sFldP, q_sAug, q_mTx, q_mIsT, q_mInK, q_sRaise0, q_mExc, q_sTry, q_iScr, q_nDict, q_mNeg, q_mCallK, q_nCallK, Res.toS, Res.bind, Res.lift, Res.calm, resO, resL, CRes.toR, CRes.toN, CRes.toB, CRes.quiet, cellO, setE, setS, dLt, dLe, dGt, dGe, dAdd, iSub, dAddA, dEq, dNe, eqB, sEq, fInt, gNm, gTp, gsCons, gsNil, dTru, dIsN, dNotN, locAt, isLst, mutK, insC, List.getElem?_cons_zero, List.getElem?_cons_succ, List.set_cons_zero, List.set_cons_succ, List.length_cons, List.length_nil, List.length_set, Option.map_some, Option.map_none, Option.bind_some, if_true, if_false, decide_eq_true_eq, decide_true, decide_false, Nat.zero_lt_succ, Nat.reduceLT, Nat.reduceAdd, and_true, true_and, and_self, Bool.false_eq_true, List.map_cons, List.map_nil, List.cons_append, List.nil_append, List.replicate_succ, List.replicate_zero, Nat.reduceSub, List.append_nil, reduceCtorEq, reduceIte, ne_eq, not_false_eq_true, not_true_eq_false, List.tail_cons, List.head?_cons, sz_le, sz_lt, Nat.reduceLeDiff, Nat.zero_le, ok62_int, Int.reduceLE, Int.reduceNeg, Int.reduceToNat, Bool.and_self, Int.reduceLT, Int.natCast_zero, F_good_row, fnOf, ms_good_row, env0, ne', Bool.not_false, Bool.not_true] at hq
  generalize hL : loopF _ _ _ _ _ = L at hq
  obtain ⟨env', S', eL, x2, x3, rfl, rfl⟩ : ∃ env' S', L = .next env' S' ∧ ∃ x2 x3, env' = [.val (rowD r), .val (tupR g), x2, x3] ∧ S' = S := by
    rw [← hL]
    refine loop_enum (fun k env' S' => ∃ x2 x3, env' = [.val (rowD r), .val (tupR g), x2, x3] ∧ S' = S) ⟨.none, .none, rfl, rfl⟩ fun k x env S1 hx hI => ?_
    obtain ⟨x2, x3, rfl, rfl⟩ := hI
    have hk := (List.getElem?_eq_some_iff.mp hx).1
    have hm : x ∈ g := sub x (List.mem_of_getElem? hx)
    have hin := nin_of (inT_ints (x := x) (xs := g))
    rw [show decide (x ∈ g) = true from decide_eq_true hm] at hin
    by_cases c : (0 : Int) < (k : Int)
    · obtain ⟨y, hy⟩ : ∃ y, r[k - 1]? = some y := ⟨_, List.getElem?_eq_getElem (by omega)⟩
      have e1 := ix_L (xs := r.map D.int) (i := (k : Int) - 1) (x := .int y) (by omega) (by rw [List.getElem?_map, show ((k : Int) - 1).toNat = k - 1 by omega, hy]; rfl)
      have c2 : ¬ x ≤ y := by have := asc_get asc hy hx (by omega); omega
      exact ⟨_, _, by simp only [q_mVar, q_mCst, q_oVal, q_oLoc, q_mOp2, q_bOf, q_bTru, q_bNot, q_bAnd, q_bOr, q_vAnd, q_vOr, q_vNot, q_mIte, q_mOr, q_aNil, q_aCons, q_aoNil, q_aoCons, q_mTup, q_nLst, q_iSeq, q_iSign, q_iR1, q_iR2, q_iEnumM, q_iRevM, q_iZipM, q_sNext, q_sSeq, q_sExpr, q_sRet, q_sRetN, q_sRetL, q_sIf, q_sSet, q_sSetN, q_sAsg, q_sFor, q_nLc, q_bYes, q_mCall, q_nCall, q_mMeth, q_mMeth0, q_mFld, q_mProp, q_nMake, q_pNone, q_pSome, q_mSl, q_mB, q_mRef, q_mMut, q_mMut0, q_mDGet, q_sPut, q_sFldP, q_sAug, q_mTx, q_mIsT, q_mInK, q_sRaise0, q_mExc, q_sTry, q_iScr, q_nDict, q_mNeg, q_mCallK, q_nCallK, Res.toS, Res.bind, Res.lift, Res.calm, resO, resL, CRes.toR, CRes.toN, CRes.toB, CRes.quiet, cellO, setE, setS, dLt, dLe, dGt, dGe, dAdd, iSub, dAddA, dEq, dNe, eqB, sEq, fInt, gNm, gTp, gsCons, gsNil, dTru, dIsN, dNotN, locAt, isLst, mutK, insC, List.getElem?_cons_zero, List.getElem?_cons_succ, List.set_cons_zero, List.set_cons_succ, List.length_cons, List.length_nil, List.length_set, Option.map_some, Option.map_none, Option.bind_some, if_true, if_false, decide_eq_true_eq, decide_true, decide_false, Nat.zero_lt_succ, Nat.reduceLT, Nat.reduceAdd, and_true, true_and, and_self, Bool.false_eq_true, List.map_cons, List.map_nil, List.cons_append, List.nil_append, List.replicate_succ, List.replicate_zero, Nat.reduceSub, List.append_nil, reduceCtorEq, reduceIte, ne_eq, not_false_eq_true, not_true_eq_false, List.tail_cons, List.head?_cons, sz_le, sz_lt, Nat.reduceLeDiff, Nat.zero_le, ok62_int, Int.reduceLE, Int.reduceNeg, Int.reduceToNat, Bool.and_self, Int.reduceLT, Int.natCast_zero, turnF, hin, Bool.not_true, c, e1, c2] <;> rfl, _, _, rfl, rfl⟩
    · exact ⟨_, _, by simp only [q_mVar, q_mCst, q_oVal, q_oLoc, q_mOp2, q_bOf, q_bTru, q_bNot, q_bAnd, q_bOr, q_vAnd, q_vOr, q_vNot, q_mIte, q_mOr, q_aNil, q_aCons, q_aoNil, q_aoCons, q_mTup, q_nLst, q_iSeq, q_iSign, q_iR1, q_iR2, q_iEnumM, q_iRevM, q_iZipM, q_sNext, q_sSeq, q_sExpr, q_sRet, q_sRetN, q_sRetL, q_sIf, q_sSet, q_sSetN, q_sAsg, q_sFor, q_nLc, q_bYes, q_mCall, q_nCall, q_mMeth, q_mMeth0, q_mFld, q_mProp, q_nMake, q_pNone, q_pSome, q_mSl, q_mB, q_mRef, q_mMut, q_mMut0, q_mDGet, q_sPut, q_sFldP, q_sAug, q_mTx, q_mIsT, q_mInK, q_sRaise0, q_mExc, q_sTry, q_iScr, q_nDict, q_mNeg, q_mCallK, q_nCallK, Res.toS, Res.bind, Res.lift, Res.calm, resO, resL, CRes.toR, CRes.toN, CRes.toB, CRes.quiet, cellO, setE, setS, dLt, dLe, dGt, dGe, dAdd, iSub, dAddA, dEq, dNe, eqB, sEq, fInt, gNm, gTp, gsCons, gsNil, dTru, dIsN, dNotN, locAt, isLst, mutK, insC, List.getElem?_cons_zero, List.getElem?_cons_succ, List.set_cons_zero, List.set_cons_succ, List.length_cons, List.length_nil, List.length_set, Option.map_some, Option.map_none, Option.bind_some, if_true, if_false, decide_eq_true_eq, decide_true, decide_false, Nat.zero_lt_succ, Nat.reduceLT, Nat.reduceAdd, and_true, true_and, and_self, Bool.false_eq_true, List.map_cons, List.map_nil, List.cons_append, List.nil_append, List.replicate_succ, List.replicate_zero, Nat.reduceSub, List.append_nil, reduceCtorEq, reduceIte, ne_eq, not_false_eq_true, not_true_eq_false, List.tail_cons, List.head?_cons, sz_le, sz_lt, Nat.reduceLeDiff, Nat.zero_le, ok62_int, Int.reduceLE, Int.reduceNeg, Int.reduceToNat, Bool.and_self, Int.reduceLT, Int.natCast_zero, turnF, hin, Bool.not_true, c] <;> rfl, _, _, rfl, rfl⟩
  simp only [q_mVar, q_mCst, q_oVal, q_oLoc, q_mOp2, q_bOf, q_bTru, q_bNot, q_bAnd, q_bOr, q_vAnd, q_vOr, q_vNot, q_mIte, q_mOr, q_aNil, q_aCons, q_aoNil, q_aoCons, q_mTup, q_nLst, q_iSeq, q_iSign, q_iR1, q_iR2, q_iEnumM, q_iRevM, q_iZipM, q_sNext, q_sSeq, q_sExpr, q_sRet, q_sRetN, q_sRetL, q_sIf, q_sSet, q_sSetN, q_sAsg, q_sFor, q_nLc, q_bYes, q_mCall, q_nCall, q_mMeth, q_mMeth0, q_mFld, q_mProp, q_nMake, q_pNone, q_pSome, q_mSl, q_mB, q_mRef, q_mMut, q_mMut0, q_mDGet, q_sPut, q_sFldP, q_sAug, q_mTx, q_mIsT, q_mInK, q_sRaise0, q_mExc, q_sTry, q_iScr, q_nDict, q_mNeg, q_mCallK, q_nCallK, Res.toS, Res.bind, Res.lift, Res.calm, resO, resL, CRes.toR, CRes.toN, CRes.toB, CRes.quiet, cellO, setE, setS, dLt, dLe, dGt, dGe, dAdd, iSub, dAddA, dEq, dNe, eqB, sEq, fInt, gNm, gTp, gsCons, gsNil, dTru, dIsN, dNotN, locAt, isLst, mutK, insC, List.getElem?_cons_zero, List.getElem?_cons_succ, List.set_cons_zero, List.set_cons_succ, List.length_cons, List.length_nil, List.length_set, Option.map_some, Option.map_none, Option.bind_some, if_true, if_false, decide_eq_true_eq, decide_true, decide_false, Nat.zero_lt_succ, Nat.reduceLT, Nat.reduceAdd, and_true, true_and, and_self, Bool.false_eq_true, List.map_cons, List.map_nil, List.cons_append, List.nil_append, List.replicate_succ, List.replicate_zero, Nat.reduceSub, List.append_nil, reduceCtorEq, reduceIte, ne_eq, not_false_eq_true, not_true_eq_false, List.tail_cons, List.head?_cons, sz_le, sz_lt, Nat.reduceLeDiff, Nat.zero_le, ok62_int, Int.reduceLE, Int.reduceNeg, Int.reduceToNat, Bool.and_self, Int.reduceLT, Int.natCast_zero, eL] at hq
  subst hq
  rfl
theorem row_len {rows : Rows} (h : OkR rows) {k : Nat} {r : List Int} (e : rows[k]? = some r) : r.length ≤ k + 1 := by
  have o := h k r e
  have hk := (List.getElem?_eq_some_iff.mp e).1
  have hb := okR_bnd h k
  have nd : (r.map Int.toNat).Pairwise (· < ·) := by
    rw [List.pairwise_map]
    refine List.Pairwise.imp_of_mem (fun {a b} ha hb' hab => ?_) o.asc
    have := hb a (by omega) (o.sub a ha)
    omega
  have sub : ∀ x ∈ r.map Int.toNat, x ∈ List.range (k + 1) := by
    intro x hx
    obtain ⟨y, hy, rfl⟩ := List.mem_map.mp hx
    have := hb y (by omega) (o.sub y hy)
    rw [List.mem_range]; omega
  have nd2 : (r.map Int.toNat).Nodup := nd.imp fun h => by omega
  have := List.Nodup.length_le_of_subset nd2 sub
  simpa using this
theorem pn1 : putNs "go_rows" [] = (["go_rows"] : List Str) := rfl
theorem px1 (d : D) : putXs "go_rows" d [] [] = [d] := rfl
theorem nqr : ("go_rows" : Str) ≠ "met_rows" := by decide +kernel
theorem pn2 : putNs "met_rows" (["go_rows"] : List Str) = (["go_rows", "met_rows"] : List Str) := by
  simp only [putNs, if_neg nqr]
theorem px2 (d e : D) : putXs "met_rows" d (["go_rows"] : List Str) [e] = [e, d] := by
  simp only [putXs, if_neg nqr]
theorem mets_snoc (rows : Rows) (k : Nat) : ((List.range (k + 1 + 1)).map (metRow rows)).map tupR = ((List.range (k + 1)).map (metRow rows)).map tupR ++ [tupR (metRow rows (k + 1))] := by
  rw [List.range_succ (n := k + 1)]; simp
theorem init_ok (rows : Rows) (h : OkR rows) (hl : rows.length ≤ 12) (S : List D) : F_Plan_init [rowsD rows] S = .ok (pl rows) S := by
  generalize hq : F_Plan_init [rowsD rows] S = q
  have c0 : ¬ (12 : Int) < ((rows.map rowD).length : Int) := by rw [List.length_map]; omega
  simp only [q_mVar, q_mCst, q_oVal, q_oLoc, q_mOp2, q_bOf, q_bTru, q_bNot, q_bAnd, q_bOr, q_vAnd, q_vOr, q_vNot, q_mIte, q_mOr, q_aNil, q_aCons, q_aoNil, q_aoCons, q_mTup, q_nLst, q_iSeq, q_iSign, q_iR1, q_iR2, q_iEnumM, q_iRevM, q_iZipM, q_sNext, q_sSeq, q_sExpr, q_sRet, q_sRetN, q_sRetL, q_sIf, q_sSet, q_sSetN, q_sAsg, q_sFor, q_nLc, q_bYes, q_mCall, q_nCall, q_mMeth, q_mMeth0, q_mFld, q_mProp, q_nMake, q_pNone, q_pSome, q_mSl, q_mB, q_mRef, q_mMut, q_mMut0, q_mDGet, q_sPut, q_sFldP, q_sAug, q_mTx, q_mIsT, q_mInK, q_sRaise0, q_mExc, q_sTry, q_iScr, q_nDict, q_mNeg, q_mCallK, q_nCallK, Res.toS, Res.bind, Res.lift, Res.calm, resO, resL, CRes.toR, CRes.toN, CRes.toB, CRes.quiet, cellO, setE, setS, dLt, dLe, dGt, dGe, dAdd, iSub, dAddA, dEq, dNe, eqB, sEq, fInt, gNm, gTp, gsCons, gsNil, dTru, dIsN, dNotN, locAt, isLst, mutK, insC, List.getElem?_cons_zero, List.getElem?_cons_succ, List.set_cons_zero, List.set_cons_succ, List.length_cons, List.length_nil, List.length_set, Option.map_some, Option.map_none, Option.bind_some, if_true, if_false, decide_eq_true_eq, decide_true, decide_false, Nat.zero_lt_succ, Nat.reduceLT, Nat.reduceAdd, and_true, true_and, and_self, Bool.false_eq_true, List.map_cons, List.map_nil, List.cons_append, List.nil_append, List.replicate_succ, List.replicate_zero, Nat.reduceSub, List.append_nil, reduceCtorEq, reduceIte, ne_eq, not_false_eq_true, not_true_eq_false, List.tail_cons, List.head?_cons, sz_le, sz_lt, Nat.reduceLeDiff, Nat.zero_le, ok62_int, Int.reduceLE, Int.reduceNeg, Int.reduceToNat, Bool.and_self, Int.reduceLT, Int.natCast_zero, F_Plan_init, fnInit, envI, ms_Plan_init, len_lst, c0] at hq
  generalize hL : loopF _ _ _ _ _ = L at hq
  obtain ⟨env', S', eL, x3, x4, rfl, rfl, n4⟩ : ∃ env' S', L = .next env' S' ∧ ∃ x3 x4, env' = [.loc (.ins "Plan" [] []), .val (rowsD rows), .loc (.lst (((List.range (rows.length + 1)).map (metRow rows)).map tupR)), x3, x4] ∧ S' = S ∧ ∀ d, x4 ≠ Vf.Slot.loc d := by
    rw [← hL]
    refine loop_enum (fun k env' S' => ∃ x3 x4, env' = [.loc (.ins "Plan" [] []), .val (rowsD rows), .loc (.lst (((List.range (k + 1)).map (metRow rows)).map tupR)), x3, x4] ∧ S' = S ∧ ∀ d, x4 ≠ Vf.Slot.loc d) ⟨.none, .none, rfl, rfl, fun d z => by cases z⟩ fun k r env S1 hx hI => ?_
    obtain ⟨x3, x4, rfl, rfl, _⟩ := hI
    have hk := (List.getElem?_eq_some_iff.mp hx).1
    have o := h k r hx
    have e1 := ix_L (xs := ((List.range (k + 1)).map (metRow rows)).map tupR) (i := (k : Int)) (x := tupR (metRow rows k)) (by omega) (by simp)
    have e2 := good_row_ok r (metRow rows k) o.ne o.asc (fun x hx => (metRow_mem rows k x).mpr (o.sub x hx)) S1
    have hr : rowAt rows k = r := by unfold rowAt; rw [hx]; rfl
    have e3 := next_goods_ok r (by have := row_len h hx; omega) S1
    have e4 : nextIn [] r = metRow rows (k + 1) := by rw [← hr]; rfl
    rw [e4] at e3
    have e5 := app_eq (xs := ((List.range (k + 1)).map (metRow rows)).map tupR) (y := tupR (metRow rows (k + 1))) (by simp; omega)
    rw [← mets_snoc] at e5
    exact ⟨_, _, by simp only [q_mVar, q_mCst, q_oVal, q_oLoc, q_mOp2, q_bOf, q_bTru, q_bNot, q_bAnd, q_bOr, q_vAnd, q_vOr, q_vNot, q_mIte, q_mOr, q_aNil, q_aCons, q_aoNil, q_aoCons, q_mTup, q_nLst, q_iSeq, q_iSign, q_iR1, q_iR2, q_iEnumM, q_iRevM, q_iZipM, q_sNext, q_sSeq, q_sExpr, q_sRet, q_sRetN, q_sRetL, q_sIf, q_sSet, q_sSetN, q_sAsg, q_sFor, q_nLc, q_bYes, q_mCall, q_nCall, q_mMeth, q_mMeth0, q_mFld, q_mProp, q_nMake, q_pNone, q_pSome, q_mSl, q_mB, q_mRef, q_mMut, q_mMut0, q_mDGet, q_sPut, q_sFldP, q_sAug, q_mTx, q_mIsT, q_mInK, q_sRaise0, q_mExc, q_sTry, q_iScr, q_nDict, q_mNeg, q_mCallK, q_nCallK, Res.toS, Res.bind, Res.lift, Res.calm, resO, resL, CRes.toR, CRes.toN, CRes.toB, CRes.quiet, cellO, setE, setS, dLt, dLe, dGt, dGe, dAdd, iSub, dAddA, dEq, dNe, eqB, sEq, fInt, gNm, gTp, gsCons, gsNil, dTru, dIsN, dNotN, locAt, isLst, mutK, insC, List.getElem?_cons_zero, List.getElem?_cons_succ, List.set_cons_zero, List.set_cons_succ, List.length_cons, List.length_nil, List.length_set, Option.map_some, Option.map_none, Option.bind_some, if_true, if_false, decide_eq_true_eq, decide_true, decide_false, Nat.zero_lt_succ, Nat.reduceLT, Nat.reduceAdd, and_true, true_and, and_self, Bool.false_eq_true, List.map_cons, List.map_nil, List.cons_append, List.nil_append, List.replicate_succ, List.replicate_zero, Nat.reduceSub, List.append_nil, reduceCtorEq, reduceIte, ne_eq, not_false_eq_true, not_true_eq_false, List.tail_cons, List.head?_cons, sz_le, sz_lt, Nat.reduceLeDiff, Nat.zero_le, ok62_int, Int.reduceLE, Int.reduceNeg, Int.reduceToNat, Bool.and_self, Int.reduceLT, Int.natCast_zero, turnF, e1, e2, e3, e5, Bool.not_true] <;> rfl, _, .val (rowD r), rfl, rfl, fun d z => by cases z⟩
  clear hL
  have lc := lc_pureT (g := gNm 4) (vs := [4]) (m := mB fTuple (aoCons (oLoc 4) aoNil)) (f := rowD) (h := tupR) (xs := rows) (env := [.loc (.ins "Plan" [] []), .val (rowsD rows), .loc (.lst (((List.range (rows.length + 1)).map (metRow rows)).map tupR)), x3, .none]) (S := S') (by omega) fun x hx => by
    have hf : fTuple [rowD x] = some (tupR x) := rfl
    exact ⟨_, _, rfl, by simp only [q_mVar, q_mCst, q_oVal, q_oLoc, q_mOp2, q_bOf, q_bTru, q_bNot, q_bAnd, q_bOr, q_vAnd, q_vOr, q_vNot, q_mIte, q_mOr, q_aNil, q_aCons, q_aoNil, q_aoCons, q_mTup, q_nLst, q_iSeq, q_iSign, q_iR1, q_iR2, q_iEnumM, q_iRevM, q_iZipM, q_sNext, q_sSeq, q_sExpr, q_sRet, q_sRetN, q_sRetL, q_sIf, q_sSet, q_sSetN, q_sAsg, q_sFor, q_nLc, q_bYes, q_mCall, q_nCall, q_mMeth, q_mMeth0, q_mFld, q_mProp, q_nMake, q_pNone, q_pSome, q_mSl, q_mB, q_mRef, q_mMut, q_mMut0, q_mDGet, q_sPut, q_sFldP, q_sAug, q_mTx, q_mIsT, q_mInK, q_sRaise0, q_mExc, q_sTry, q_iScr, q_nDict, q_mNeg, q_mCallK, q_nCallK, Res.toS, Res.bind, Res.lift, Res.calm, resO, resL, CRes.toR, CRes.toN, CRes.toB, CRes.quiet, cellO, setE, setS, dLt, dLe, dGt, dGe, dAdd, iSub, dAddA, dEq, dNe, eqB, sEq, fInt, gNm, gTp, gsCons, gsNil, dTru, dIsN, dNotN, locAt, isLst, mutK, insC, List.getElem?_cons_zero, List.getElem?_cons_succ, List.set_cons_zero, List.set_cons_succ, List.length_cons, List.length_nil, List.length_set, Option.map_some, Option.map_none, Option.bind_some, if_true, if_false, decide_eq_true_eq, decide_true, decide_false, Nat.zero_lt_succ, Nat.reduceLT, Nat.reduceAdd, and_true, true_and, and_self, Bool.false_eq_true, List.map_cons, List.map_nil, List.cons_append, List.nil_append, List.replicate_succ, List.replicate_zero, Nat.reduceSub, List.append_nil, reduceCtorEq, reduceIte, ne_eq, not_false_eq_true, not_true_eq_false, List.tail_cons, List.head?_cons, sz_le, sz_lt, Nat.reduceLeDiff, Nat.zero_le, ok62_int, Int.reduceLE, Int.reduceNeg, Int.reduceToNat, Bool.and_self, Int.reduceLT, Int.natCast_zero, hf] <;> rfl, by simp only [q_mVar, q_mCst, q_oVal, q_oLoc, q_mOp2, q_bOf, q_bTru, q_bNot, q_bAnd, q_bOr, q_vAnd, q_vOr, q_vNot, q_mIte, q_mOr, q_aNil, q_aCons, q_aoNil, q_aoCons, q_mTup, q_nLst, q_iSeq, q_iSign, q_iR1, q_iR2, q_iEnumM, q_iRevM, q_iZipM, q_sNext, q_sSeq, q_sExpr, q_sRet, q_sRetN, q_sRetL, q_sIf, q_sSet, q_sSetN, q_sAsg, q_sFor, q_nLc, q_bYes, q_mCall, q_nCall, q_mMeth, q_mMeth0, q_mFld, q_mProp, q_nMake, q_pNone, q_pSome, q_mSl, q_mB, q_mRef, q_mMut, q_mMut0, q_mDGet, q_sPut, q_sFldP, q_sAug, q_mTx, q_mIsT, q_mInK, q_sRaise0, q_mExc, q_sTry, q_iScr, q_nDict, q_mNeg, q_mCallK, q_nCallK, Res.toS, Res.bind, Res.lift, Res.calm, resO, resL, CRes.toR, CRes.toN, CRes.toB, CRes.quiet, cellO, setE, setS, dLt, dLe, dGt, dGe, dAdd, iSub, dAddA, dEq, dNe, eqB, sEq, fInt, gNm, gTp, gsCons, gsNil, dTru, dIsN, dNotN, locAt, isLst, mutK, insC, List.getElem?_cons_zero, List.getElem?_cons_succ, List.set_cons_zero, List.set_cons_succ, List.length_cons, List.length_nil, List.length_set, Option.map_some, Option.map_none, Option.bind_some, if_true, if_false, decide_eq_true_eq, decide_true, decide_false, Nat.zero_lt_succ, Nat.reduceLT, Nat.reduceAdd, and_true, true_and, and_self, Bool.false_eq_true, List.map_cons, List.map_nil, List.cons_append, List.nil_append, List.replicate_succ, List.replicate_zero, Nat.reduceSub, List.append_nil, reduceCtorEq, reduceIte, ne_eq, not_false_eq_true, not_true_eq_false, List.tail_cons, List.head?_cons, sz_le, sz_lt, Nat.reduceLeDiff, Nat.zero_le, ok62_int, Int.reduceLE, Int.reduceNeg, Int.reduceToNat, Bool.and_self, Int.reduceLT, Int.natCast_zero, wipeE]⟩
  have ft : ∀ xs : List D, fTuple [.lst xs] = some (.tup xs) := fun _ => rfl
  cases x4 with
  | loc d => exact absurd rfl (n4 d)
  | val d =>
    simp only [q_mVar, q_mCst, q_oVal, q_oLoc, q_mOp2, q_bOf, q_bTru, q_bNot, q_bAnd, q_bOr, q_vAnd, q_vOr, q_vNot, q_mIte, q_mOr, q_aNil, q_aCons, q_aoNil, q_aoCons, q_mTup, q_nLst, q_iSeq, q_iSign, q_iR1, q_iR2, q_iEnumM, q_iRevM, q_iZipM, q_sNext, q_sSeq, q_sExpr, q_sRet, q_sRetN, q_sRetL, q_sIf, q_sSet, q_sSetN, q_sAsg, q_sFor, q_nLc, q_bYes, q_mCall, q_nCall, q_mMeth, q_mMeth0, q_mFld, q_mProp, q_nMake, q_pNone, q_pSome, q_mSl, q_mB, q_mRef, q_mMut, q_mMut0, q_mDGet, q_sPut, q_sFldP, q_sAug, q_mTx, q_mIsT, q_mInK, q_sRaise0, q_mExc, q_sTry, q_iScr, q_nDict, q_mNeg, q_mCallK, q_nCallK, Res.toS, Res.bind, Res.lift, Res.calm, resO, resL, CRes.toR, CRes.toN, CRes.toB, CRes.quiet, cellO, setE, setS, dLt, dLe, dGt, dGe, dAdd, iSub, dAddA, dEq, dNe, eqB, sEq, fInt, gNm, gTp, gsCons, gsNil, dTru, dIsN, dNotN, locAt, isLst, mutK, insC, List.getElem?_cons_zero, List.getElem?_cons_succ, List.set_cons_zero, List.set_cons_succ, List.length_cons, List.length_nil, List.length_set, Option.map_some, Option.map_none, Option.bind_some, if_true, if_false, decide_eq_true_eq, decide_true, decide_false, Nat.zero_lt_succ, Nat.reduceLT, Nat.reduceAdd, and_true, true_and, and_self, Bool.false_eq_true, List.map_cons, List.map_nil, List.cons_append, List.nil_append, List.replicate_succ, List.replicate_zero, Nat.reduceSub, List.append_nil, reduceCtorEq, reduceIte, ne_eq, not_false_eq_true, not_true_eq_false, List.tail_cons, List.head?_cons, sz_le, sz_lt, Nat.reduceLeDiff, Nat.zero_le, ok62_int, Int.reduceLE, Int.reduceNeg, Int.reduceToNat, Bool.and_self, Int.reduceLT, Int.natCast_zero, eL, okVs, wipeE, List.all_cons, List.all_nil, Bool.and_true, lc, backE, ft, List.mem_singleton, pn1, pn2, px1, px2] at hq
    subst hq
    rfl
  | none =>
    simp only [q_mVar, q_mCst, q_oVal, q_oLoc, q_mOp2, q_bOf, q_bTru, q_bNot, q_bAnd, q_bOr, q_vAnd, q_vOr, q_vNot, q_mIte, q_mOr, q_aNil, q_aCons, q_aoNil, q_aoCons, q_mTup, q_nLst, q_iSeq, q_iSign, q_iR1, q_iR2, q_iEnumM, q_iRevM, q_iZipM, q_sNext, q_sSeq, q_sExpr, q_sRet, q_sRetN, q_sRetL, q_sIf, q_sSet, q_sSetN, q_sAsg, q_sFor, q_nLc, q_bYes, q_mCall, q_nCall, q_mMeth, q_mMeth0, q_mFld, q_mProp, q_nMake, q_pNone, q_pSome, q_mSl, q_mB, q_mRef, q_mMut, q_mMut0, q_mDGet, q_sPut, q_sFldP, q_sAug, q_mTx, q_mIsT, q_mInK, q_sRaise0, q_mExc, q_sTry, q_iScr, q_nDict, q_mNeg, q_mCallK, q_nCallK, Res.toS, Res.bind, Res.lift, Res.calm, resO, resL, CRes.toR, CRes.toN, CRes.toB, CRes.quiet, cellO, setE, setS, dLt, dLe, dGt, dGe, dAdd, iSub, dAddA, dEq, dNe, eqB, sEq, fInt, gNm, gTp, gsCons, gsNil, dTru, dIsN, dNotN, locAt, isLst, mutK, insC, List.getElem?_cons_zero, List.getElem?_cons_succ, List.set_cons_zero, List.set_cons_succ, List.length_cons, List.length_nil, List.length_set, Option.map_some, Option.map_none, Option.bind_some, if_true, if_false, decide_eq_true_eq, decide_true, decide_false, Nat.zero_lt_succ, Nat.reduceLT, Nat.reduceAdd, and_true, true_and, and_self, Bool.false_eq_true, List.map_cons, List.map_nil, List.cons_append, List.nil_append, List.replicate_succ, List.replicate_zero, Nat.reduceSub, List.append_nil, reduceCtorEq, reduceIte, ne_eq, not_false_eq_true, not_true_eq_false, List.tail_cons, List.head?_cons, sz_le, sz_lt, Nat.reduceLeDiff, Nat.zero_le, ok62_int, Int.reduceLE, Int.reduceNeg, Int.reduceToNat, Bool.and_self, Int.reduceLT, Int.natCast_zero, eL, okVs, wipeE, List.all_cons, List.all_nil, Bool.and_true, lc, backE, ft, List.mem_singleton, pn1, pn2, px1, px2] at hq
    subst hq
    rfl
theorem longest_ok (rows : Rows) (S : List D) : F_Plan_longest [pl rows] S = .ok (.int rows.length) S := by
  have f : dFld "go_rows" ["Plan"] (pl rows) = some (.tup (rows.map tupR)) := rfl
  have hl : fLen [.tup (rows.map tupR)] = some (.int (rows.map tupR).length) := rfl
  simp only [q_mVar, q_mCst, q_oVal, q_oLoc, q_mOp2, q_bOf, q_bTru, q_bNot, q_bAnd, q_bOr, q_vAnd, q_vOr, q_vNot, q_mIte, q_mOr, q_aNil, q_aCons, q_aoNil, q_aoCons, q_mTup, q_nLst, q_iSeq, q_iSign, q_iR1, q_iR2, q_iEnumM, q_iRevM, q_iZipM, q_sNext, q_sSeq, q_sExpr, q_sRet, q_sRetN, q_sRetL, q_sIf, q_sSet, q_sSetN, q_sAsg, q_sFor, q_nLc, q_bYes, q_mCall, q_nCall, q_mMeth, q_mMeth0, q_mFld, q_mProp, q_nMake, q_pNone, q_pSome, q_mSl, q_mB, q_mRef, q_mMut, q_mMut0, q_mDGet, q_sPut, q_sFldP, q_sAug, q_mTx, q_mIsT, q_mInK, q_sRaise0, q_mExc, q_sTry, q_iScr, q_nDict, q_mNeg, q_mCallK, q_nCallK, Res.toS, Res.bind, Res.lift, Res.calm, resO, resL, CRes.toR, CRes.toN, CRes.toB, CRes.quiet, cellO, setE, setS, dLt, dLe, dGt, dGe, dAdd, iSub, dAddA, dEq, dNe, eqB, sEq, fInt, gNm, gTp, gsCons, gsNil, dTru, dIsN, dNotN, locAt, isLst, mutK, insC, List.getElem?_cons_zero, List.getElem?_cons_succ, List.set_cons_zero, List.set_cons_succ, List.length_cons, List.length_nil, List.length_set, Option.map_some, Option.map_none, Option.bind_some, if_true, if_false, decide_eq_true_eq, decide_true, decide_false, Nat.zero_lt_succ, Nat.reduceLT, Nat.reduceAdd, and_true, true_and, and_self, Bool.false_eq_true, List.map_cons, List.map_nil, List.cons_append, List.nil_append, List.replicate_succ, List.replicate_zero, Nat.reduceSub, List.append_nil, reduceCtorEq, reduceIte, ne_eq, not_false_eq_true, not_true_eq_false, List.tail_cons, List.head?_cons, sz_le, sz_lt, Nat.reduceLeDiff, Nat.zero_le, ok62_int, Int.reduceLE, Int.reduceNeg, Int.reduceToNat, Bool.and_self, Int.reduceLT, Int.natCast_zero, F_Plan_longest, fnOf, ms_Plan_longest, env0, f, hl, List.length_map]
theorem rows_ok (rows : Rows) (hl : rows.length ≤ 12) (S : List D) : F_Plan_rows [pl rows] S = .new (rowsD rows) S := by
  have f : dFld "go_rows" ["Plan"] (pl rows) = some (.tup (rows.map tupR)) := rfl
  have lc := lc_pureT (g := gNm 1) (vs := [1]) (m := mB fList (aoCons (oLoc 1) aoNil)) (f := tupR) (h := rowD) (xs := rows) (env := [.val (pl rows), .none]) (S := S) (by omega) fun x hx => by
    have hf : fList [tupR x] = some (rowD x) := rfl
    exact ⟨_, _, rfl, by simp only [q_mVar, q_mCst, q_oVal, q_oLoc, q_mOp2, q_bOf, q_bTru, q_bNot, q_bAnd, q_bOr, q_vAnd, q_vOr, q_vNot, q_mIte, q_mOr, q_aNil, q_aCons, q_aoNil, q_aoCons, q_mTup, q_nLst, q_iSeq, q_iSign, q_iR1, q_iR2, q_iEnumM, q_iRevM, q_iZipM, q_sNext, q_sSeq, q_sExpr, q_sRet, q_sRetN, q_sRetL, q_sIf, q_sSet, q_sSetN, q_sAsg, q_sFor, q_nLc, q_bYes, q_mCall, q_nCall, q_mMeth, q_mMeth0, q_mFld, q_mProp, q_nMake, q_pNone, q_pSome, q_mSl, q_mB, q_mRef, q_mMut, q_mMut0, q_mDGet, q_sPut, q_sFldP, q_sAug, q_mTx, q_mIsT, q_mInK, q_sRaise0, q_mExc, q_sTry, q_iScr, q_nDict, q_mNeg, q_mCallK, q_nCallK, Res.toS, Res.bind, Res.lift, Res.calm, resO, resL, CRes.toR, CRes.toN, CRes.toB, CRes.quiet, cellO, setE, setS, dLt, dLe, dGt, dGe, dAdd, iSub, dAddA, dEq, dNe, eqB, sEq, fInt, gNm, gTp, gsCons, gsNil, dTru, dIsN, dNotN, locAt, isLst, mutK, insC, List.getElem?_cons_zero, List.getElem?_cons_succ, List.set_cons_zero, List.set_cons_succ, List.length_cons, List.length_nil, List.length_set, Option.map_some, Option.map_none, Option.bind_some, if_true, if_false, decide_eq_true_eq, decide_true, decide_false, Nat.zero_lt_succ, Nat.reduceLT, Nat.reduceAdd, and_true, true_and, and_self, Bool.false_eq_true, List.map_cons, List.map_nil, List.cons_append, List.nil_append, List.replicate_succ, List.replicate_zero, Nat.reduceSub, List.append_nil, reduceCtorEq, reduceIte, ne_eq, not_false_eq_true, not_true_eq_false, List.tail_cons, List.head?_cons, sz_le, sz_lt, Nat.reduceLeDiff, Nat.zero_le, ok62_int, Int.reduceLE, Int.reduceNeg, Int.reduceToNat, Bool.and_self, Int.reduceLT, Int.natCast_zero, hf] <;> rfl, by simp only [q_mVar, q_mCst, q_oVal, q_oLoc, q_mOp2, q_bOf, q_bTru, q_bNot, q_bAnd, q_bOr, q_vAnd, q_vOr, q_vNot, q_mIte, q_mOr, q_aNil, q_aCons, q_aoNil, q_aoCons, q_mTup, q_nLst, q_iSeq, q_iSign, q_iR1, q_iR2, q_iEnumM, q_iRevM, q_iZipM, q_sNext, q_sSeq, q_sExpr, q_sRet, q_sRetN, q_sRetL, q_sIf, q_sSet, q_sSetN, q_sAsg, q_sFor, q_nLc, q_bYes, q_mCall, q_nCall, q_mMeth, q_mMeth0, q_mFld, q_mProp, q_nMake, q_pNone, q_pSome, q_mSl, q_mB, q_mRef, q_mMut, q_mMut0, q_mDGet, q_sPut, q_sFldP, q_sAug, q_mTx, q_mIsT, q_mInK, q_sRaise0, q_mExc, q_sTry, q_iScr, q_nDict, q_mNeg, q_mCallK, q_nCallK, Res.toS, Res.bind, Res.lift, Res.calm, resO, resL, CRes.toR, CRes.toN, CRes.toB, CRes.quiet, cellO, setE, setS, dLt, dLe, dGt, dGe, dAdd, iSub, dAddA, dEq, dNe, eqB, sEq, fInt, gNm, gTp, gsCons, gsNil, dTru, dIsN, dNotN, locAt, isLst, mutK, insC, List.getElem?_cons_zero, List.getElem?_cons_succ, List.set_cons_zero, List.set_cons_succ, List.length_cons, List.length_nil, List.length_set, Option.map_some, Option.map_none, Option.bind_some, if_true, if_false, decide_eq_true_eq, decide_true, decide_false, Nat.zero_lt_succ, Nat.reduceLT, Nat.reduceAdd, and_true, true_and, and_self, Bool.false_eq_true, List.map_cons, List.map_nil, List.cons_append, List.nil_append, List.replicate_succ, List.replicate_zero, Nat.reduceSub, List.append_nil, reduceCtorEq, reduceIte, ne_eq, not_false_eq_true, not_true_eq_false, List.tail_cons, List.head?_cons, sz_le, sz_lt, Nat.reduceLeDiff, Nat.zero_le, ok62_int, Int.reduceLE, Int.reduceNeg, Int.reduceToNat, Bool.and_self, Int.reduceLT, Int.natCast_zero, wipeE]⟩
  simp only [q_mVar, q_mCst, q_oVal, q_oLoc, q_mOp2, q_bOf, q_bTru, q_bNot, q_bAnd, q_bOr, q_vAnd, q_vOr, q_vNot, q_mIte, q_mOr, q_aNil, q_aCons, q_aoNil, q_aoCons, q_mTup, q_nLst, q_iSeq, q_iSign, q_iR1, q_iR2, q_iEnumM, q_iRevM, q_iZipM, q_sNext, q_sSeq, q_sExpr, q_sRet, q_sRetN, q_sRetL, q_sIf, q_sSet, q_sSetN, q_sAsg, q_sFor, q_nLc, q_bYes, q_mCall, q_nCall, q_mMeth, q_mMeth0, q_mFld, q_mProp, q_nMake, q_pNone, q_pSome, q_mSl, q_mB, q_mRef, q_mMut, q_mMut0, q_mDGet, q_sPut, q_sFldP, q_sAug, q_mTx, q_mIsT, q_mInK, q_sRaise0, q_mExc, q_sTry, q_iScr, q_nDict, q_mNeg, q_mCallK, q_nCallK, Res.toS, Res.bind, Res.lift, Res.calm, resO, resL, CRes.toR, CRes.toN, CRes.toB, CRes.quiet, cellO, setE, setS, dLt, dLe, dGt, dGe, dAdd, iSub, dAddA, dEq, dNe, eqB, sEq, fInt, gNm, gTp, gsCons, gsNil, dTru, dIsN, dNotN, locAt, isLst, mutK, insC, List.getElem?_cons_zero, List.getElem?_cons_succ, List.set_cons_zero, List.set_cons_succ, List.length_cons, List.length_nil, List.length_set, Option.map_some, Option.map_none, Option.bind_some, if_true, if_false, decide_eq_true_eq, decide_true, decide_false, Nat.zero_lt_succ, Nat.reduceLT, Nat.reduceAdd, and_true, true_and, and_self, Bool.false_eq_true, List.map_cons, List.map_nil, List.cons_append, List.nil_append, List.replicate_succ, List.replicate_zero, Nat.reduceSub, List.append_nil, reduceCtorEq, reduceIte, ne_eq, not_false_eq_true, not_true_eq_false, List.tail_cons, List.head?_cons, sz_le, sz_lt, Nat.reduceLeDiff, Nat.zero_le, ok62_int, Int.reduceLE, Int.reduceNeg, Int.reduceToNat, Bool.and_self, Int.reduceLT, Int.natCast_zero, F_Plan_rows, fnOf, ms_Plan_rows, env0, f, okVs, wipeE, List.all_cons, List.all_nil, Bool.and_true, lc, backE]
theorem need_sum (rs : List Rows) : ((rs.map fun r => (r.length : Int)).sum : Int) = (need rs : Nat) := by
  induction rs with
  | nil => rfl
  | cons r rs ih => simp [need, ih]
theorem all_looks_ok (rs : List Rows) (hl : rs.length ≤ 100) (S : List D) : F_all_looks [.lst (rs.map pl)] S = .ok (.int (need rs)) S := by
  have lc := lc_pureT (g := gNm 1) (vs := [1]) (m := mProp "Plan" F_Plan_longest (mVar 1)) (f := pl) (h := fun r => .int (r.length : Int)) (xs := rs) (env := [.val (.lst (rs.map pl)), .none]) (S := S) (by omega) fun x hx => by
    have e := longest_ok x S
    exact ⟨_, _, rfl, by simp only [q_mVar, q_mCst, q_oVal, q_oLoc, q_mOp2, q_bOf, q_bTru, q_bNot, q_bAnd, q_bOr, q_vAnd, q_vOr, q_vNot, q_mIte, q_mOr, q_aNil, q_aCons, q_aoNil, q_aoCons, q_mTup, q_nLst, q_iSeq, q_iSign, q_iR1, q_iR2, q_iEnumM, q_iRevM, q_iZipM, q_sNext, q_sSeq, q_sExpr, q_sRet, q_sRetN, q_sRetL, q_sIf, q_sSet, q_sSetN, q_sAsg, q_sFor, q_nLc, q_bYes, q_mCall, q_nCall, q_mMeth, q_mMeth0, q_mFld, q_mProp, q_nMake, q_pNone, q_pSome, q_mSl, q_mB, q_mRef, q_mMut, q_mMut0, q_mDGet, q_sPut, q_sFldP, q_sAug, q_mTx, q_mIsT, q_mInK, q_sRaise0, q_mExc, q_sTry, q_iScr, q_nDict, q_mNeg, q_mCallK, q_nCallK, Res.toS, Res.bind, Res.lift, Res.calm, resO, resL, CRes.toR, CRes.toN, CRes.toB, CRes.quiet, cellO, setE, setS, dLt, dLe, dGt, dGe, dAdd, iSub, dAddA, dEq, dNe, eqB, sEq, fInt, gNm, gTp, gsCons, gsNil, dTru, dIsN, dNotN, locAt, isLst, mutK, insC, List.getElem?_cons_zero, List.getElem?_cons_succ, List.set_cons_zero, List.set_cons_succ, List.length_cons, List.length_nil, List.length_set, Option.map_some, Option.map_none, Option.bind_some, if_true, if_false, decide_eq_true_eq, decide_true, decide_false, Nat.zero_lt_succ, Nat.reduceLT, Nat.reduceAdd, and_true, true_and, and_self, Bool.false_eq_true, List.map_cons, List.map_nil, List.cons_append, List.nil_append, List.replicate_succ, List.replicate_zero, Nat.reduceSub, List.append_nil, reduceCtorEq, reduceIte, ne_eq, not_false_eq_true, not_true_eq_false, List.tail_cons, List.head?_cons, sz_le, sz_lt, Nat.reduceLeDiff, Nat.zero_le, ok62_int, Int.reduceLE, Int.reduceNeg, Int.reduceToNat, Bool.and_self, Int.reduceLT, Int.natCast_zero, e] <;> rfl, by simp only [q_mVar, q_mCst, q_oVal, q_oLoc, q_mOp2, q_bOf, q_bTru, q_bNot, q_bAnd, q_bOr, q_vAnd, q_vOr, q_vNot, q_mIte, q_mOr, q_aNil, q_aCons, q_aoNil, q_aoCons, q_mTup, q_nLst, q_iSeq, q_iSign, q_iR1, q_iR2, q_iEnumM, q_iRevM, q_iZipM, q_sNext, q_sSeq, q_sExpr, q_sRet, q_sRetN, q_sRetL, q_sIf, q_sSet, q_sSetN, q_sAsg, q_sFor, q_nLc, q_bYes, q_mCall, q_nCall, q_mMeth, q_mMeth0, q_mFld, q_mProp, q_nMake, q_pNone, q_pSome, q_mSl, q_mB, q_mRef, q_mMut, q_mMut0, q_mDGet, q_sPut, q_sFldP, q_sAug, q_mTx, q_mIsT, q_mInK, q_sRaise0, q_mExc, q_sTry, q_iScr, q_nDict, q_mNeg, q_mCallK, q_nCallK, Res.toS, Res.bind, Res.lift, Res.calm, resO, resL, CRes.toR, CRes.toN, CRes.toB, CRes.quiet, cellO, setE, setS, dLt, dLe, dGt, dGe, dAdd, iSub, dAddA, dEq, dNe, eqB, sEq, fInt, gNm, gTp, gsCons, gsNil, dTru, dIsN, dNotN, locAt, isLst, mutK, insC, List.getElem?_cons_zero, List.getElem?_cons_succ, List.set_cons_zero, List.set_cons_succ, List.length_cons, List.length_nil, List.length_set, Option.map_some, Option.map_none, Option.bind_some, if_true, if_false, decide_eq_true_eq, decide_true, decide_false, Nat.zero_lt_succ, Nat.reduceLT, Nat.reduceAdd, and_true, true_and, and_self, Bool.false_eq_true, List.map_cons, List.map_nil, List.cons_append, List.nil_append, List.replicate_succ, List.replicate_zero, Nat.reduceSub, List.append_nil, reduceCtorEq, reduceIte, ne_eq, not_false_eq_true, not_true_eq_false, List.tail_cons, List.head?_cons, sz_le, sz_lt, Nat.reduceLeDiff, Nat.zero_le, ok62_int, Int.reduceLE, Int.reduceNeg, Int.reduceToNat, Bool.and_self, Int.reduceLT, Int.natCast_zero, wipeE]⟩
  have hs := sum_ints (xs := rs) (f := fun r => (r.length : Int))
  rw [need_sum] at hs
  simp only [q_mVar, q_mCst, q_oVal, q_oLoc, q_mOp2, q_bOf, q_bTru, q_bNot, q_bAnd, q_bOr, q_vAnd, q_vOr, q_vNot, q_mIte, q_mOr, q_aNil, q_aCons, q_aoNil, q_aoCons, q_mTup, q_nLst, q_iSeq, q_iSign, q_iR1, q_iR2, q_iEnumM, q_iRevM, q_iZipM, q_sNext, q_sSeq, q_sExpr, q_sRet, q_sRetN, q_sRetL, q_sIf, q_sSet, q_sSetN, q_sAsg, q_sFor, q_nLc, q_bYes, q_mCall, q_nCall, q_mMeth, q_mMeth0, q_mFld, q_mProp, q_nMake, q_pNone, q_pSome, q_mSl, q_mB, q_mRef, q_mMut, q_mMut0, q_mDGet, q_sPut, q_sFldP, q_sAug, q_mTx, q_mIsT, q_mInK, q_sRaise0, q_mExc, q_sTry, q_iScr, q_nDict, q_mNeg, q_mCallK, q_nCallK, Res.toS, Res.bind, Res.lift, Res.calm, resO, resL, CRes.toR, CRes.toN, CRes.toB, CRes.quiet, cellO, setE, setS, dLt, dLe, dGt, dGe, dAdd, iSub, dAddA, dEq, dNe, eqB, sEq, fInt, gNm, gTp, gsCons, gsNil, dTru, dIsN, dNotN, locAt, isLst, mutK, insC, List.getElem?_cons_zero, List.getElem?_cons_succ, List.set_cons_zero, List.set_cons_succ, List.length_cons, List.length_nil, List.length_set, Option.map_some, Option.map_none, Option.bind_some, if_true, if_false, decide_eq_true_eq, decide_true, decide_false, Nat.zero_lt_succ, Nat.reduceLT, Nat.reduceAdd, and_true, true_and, and_self, Bool.false_eq_true, List.map_cons, List.map_nil, List.cons_append, List.nil_append, List.replicate_succ, List.replicate_zero, Nat.reduceSub, List.append_nil, reduceCtorEq, reduceIte, ne_eq, not_false_eq_true, not_true_eq_false, List.tail_cons, List.head?_cons, sz_le, sz_lt, Nat.reduceLeDiff, Nat.zero_le, ok62_int, Int.reduceLE, Int.reduceNeg, Int.reduceToNat, Bool.and_self, Int.reduceLT, Int.natCast_zero, F_all_looks, fnOf, ms_all_looks, env0, okVs, wipeE, List.all_cons, List.all_nil, Bool.and_true, lc, backE, hs]
end K84
namespace K84
open PySem PySem.Spec PyProof.Rows L2 L2H Vf
open SX (S)
abbrev strS (co : List Nat) : D := .str (S co)
theorem drop_cons {α : Type} {rs : List α} {k : Nat} {r : α} (h : rs[k]? = some r) : rs.drop k = r :: rs.drop (k + 1) := by
  obtain ⟨h1, h2⟩ := List.getElem?_eq_some_iff.mp h
  rw [List.drop_eq_getElem_cons h1, h2]
theorem gs_count (l : List Nat) : gs l = ((l.count 103 : Nat) : Int) := by
  induction l with
  | nil => rfl
  | cons x l ih =>
    simp only [gs, gd, ih, List.count_cons]
    by_cases q : x = 103
    · simp [q]
    · simp [q]
theorem sl1_S {a : List Nat} {k : Nat} (h : a.length ≤ 10000000) : dSl (some (k : Int)) (some ((k : Int) + 1)) (.str (S a)) = some (.str (S ((a.take (k + 1)).drop k))) := by
  have e : ((k : Int) + 1) = ((k + 1 : Nat) : Int) := rfl
  rw [e]
  show (if (S a).length ≤ sizeLine then some (D.str (cutS (S a) (some (k : Int)) (some ((k + 1 : Nat) : Int)))) else none) = _
  rw [SX.S_len, if_pos (by rw [sizeLine_eq]; omega)]
  unfold cutS
  rw [HT.sIx_nat, HT.sIx_nat, SX.S_len]
  have : ((S a).cps.toList.drop (min k a.length)).take (min (k + 1) a.length - min k a.length) = (a.take (k + 1)).drop k := by
    show (a.drop (min k a.length)).take (min (k + 1) a.length - min k a.length) = _
    rw [List.drop_take]
    by_cases c : k < a.length
    · rw [Nat.min_eq_left (by omega), Nat.min_eq_left (by omega)]
    · rw [Nat.min_eq_right (by omega), Nat.min_eq_right (by omega), List.drop_of_length_le (by omega), List.drop_of_length_le (by omega)]; simp
  rw [this]
theorem iter_succ {α : Type} {f : α → α} {n : Nat} {a : α} : iter f (n + 1) a = f (iter f n a) := rfl
/-! the law's walks -/
theorem at_stop_ok (rows : Rows) (co : List Nat) (h : co.length ≤ 1000) (S' : List D) : F_law_at_stop [rowsD rows, strS co] S' = .ok (.bl (!going rows co)) S' := by
  have l1 := len_S (a := co) (by omega)
  by_cases c : ((rows.map rowD).length : Int) ≤ (co.length : Int)
  · have g : going rows co = false := by
      cases g : going rows co with
      | false => rfl
      | true => have := going_lt g; rw [List.length_map] at c; omega
    simp only [q_mVar, q_mCst, q_oVal, q_oLoc, q_mOp2, q_bOf, q_bTru, q_bNot, q_bAnd, q_bOr, q_vAnd, q_vOr, q_vNot, q_mIte, q_mOr, q_aNil, q_aCons, q_aoNil, q_aoCons, q_mTup, q_nLst, q_iSeq, q_iSign, q_iR1, q_iR2, q_iEnumM, q_iRevM, q_iZipM, q_sNext, q_sSeq, q_sExpr, q_sRet, q_sRetN, q_sRetL, q_sIf, q_sSet, q_sSetN, q_sAsg, q_sFor, q_nLc, q_bYes, q_mCall, q_nCall, q_mMeth, q_mMeth0, q_mFld, q_mProp, q_nMake, q_pNone, q_pSome, q_mSl, q_mB, q_mRef, q_mMut, q_mMut0, q_mDGet, q_sPut, q_sFldP, q_sAug, q_mTx, q_mIsT, q_mInK, q_sRaise0, q_mExc, q_sTry, q_iScr, q_nDict, q_mNeg, q_mCallK, q_nCallK, Res.toS, Res.bind, Res.lift, Res.calm, resO, resL, CRes.toR, CRes.toN, CRes.toB, CRes.quiet, cellO, setE, setS, dLt, dLe, dGt, dGe, dAdd, iSub, dAddA, dEq, dNe, eqB, sEq, fInt, gNm, gTp, gsCons, gsNil, dTru, dIsN, dNotN, locAt, isLst, mutK, insC, List.getElem?_cons_zero, List.getElem?_cons_succ, List.set_cons_zero, List.set_cons_succ, List.length_cons, List.length_nil, List.length_set, Option.map_some, Option.map_none, Option.bind_some, if_true, if_false, decide_eq_true_eq, decide_true, decide_false, Nat.zero_lt_succ, Nat.reduceLT, Nat.reduceAdd, and_true, true_and, and_self, Bool.false_eq_true, List.map_cons, List.map_nil, List.cons_append, List.nil_append, List.replicate_succ, List.replicate_zero, Nat.reduceSub, List.append_nil, reduceCtorEq, reduceIte, ne_eq, not_false_eq_true, not_true_eq_false, List.tail_cons, List.head?_cons, sz_le, sz_lt, Nat.reduceLeDiff, Nat.zero_le, ok62_int, Int.reduceLE, Int.reduceNeg, Int.reduceToNat, Bool.and_self, Int.reduceLT, Int.natCast_zero, F_law_at_stop, fnOf, ms_law_at_stop, env0, l1, len_lst, c, g, Bool.not_false]
  · have c' := c
    rw [List.length_map] at c'
    have e := ix_L (xs := rows.map rowD) (i := (co.length : Int)) (x := rowD (rowAt rows co.length)) (by omega) (by rw [List.getElem?_map, Int.toNat_natCast, List.getElem?_eq_getElem (by omega), rowAt_lt (by omega)]; rfl)
    have e2 := nin_of (in_ints (x := (co.count 103 : Nat)) (xs := rowAt rows co.length))
    have e3 : going rows co = decide (((co.count 103 : Nat) : Int) ∈ rowAt rows co.length) := by unfold going; rw [gs_count]
    have cs := count_S (a := co) (c := 103)
    simp only [q_mVar, q_mCst, q_oVal, q_oLoc, q_mOp2, q_bOf, q_bTru, q_bNot, q_bAnd, q_bOr, q_vAnd, q_vOr, q_vNot, q_mIte, q_mOr, q_aNil, q_aCons, q_aoNil, q_aoCons, q_mTup, q_nLst, q_iSeq, q_iSign, q_iR1, q_iR2, q_iEnumM, q_iRevM, q_iZipM, q_sNext, q_sSeq, q_sExpr, q_sRet, q_sRetN, q_sRetL, q_sIf, q_sSet, q_sSetN, q_sAsg, q_sFor, q_nLc, q_bYes, q_mCall, q_nCall, q_mMeth, q_mMeth0, q_mFld, q_mProp, q_nMake, q_pNone, q_pSome, q_mSl, q_mB, q_mRef, q_mMut, q_mMut0, q_mDGet, q_sPut, q_sFldP, q_sAug, q_mTx, q_mIsT, q_mInK, q_sRaise0, q_mExc, q_sTry, q_iScr, q_nDict, q_mNeg, q_mCallK, q_nCallK, Res.toS, Res.bind, Res.lift, Res.calm, resO, resL, CRes.toR, CRes.toN, CRes.toB, CRes.quiet, cellO, setE, setS, dLt, dLe, dGt, dGe, dAdd, iSub, dAddA, dEq, dNe, eqB, sEq, fInt, gNm, gTp, gsCons, gsNil, dTru, dIsN, dNotN, locAt, isLst, mutK, insC, List.getElem?_cons_zero, List.getElem?_cons_succ, List.set_cons_zero, List.set_cons_succ, List.length_cons, List.length_nil, List.length_set, Option.map_some, Option.map_none, Option.bind_some, if_true, if_false, decide_eq_true_eq, decide_true, decide_false, Nat.zero_lt_succ, Nat.reduceLT, Nat.reduceAdd, and_true, true_and, and_self, Bool.false_eq_true, List.map_cons, List.map_nil, List.cons_append, List.nil_append, List.replicate_succ, List.replicate_zero, Nat.reduceSub, List.append_nil, reduceCtorEq, reduceIte, ne_eq, not_false_eq_true, not_true_eq_false, List.tail_cons, List.head?_cons, sz_le, sz_lt, Nat.reduceLeDiff, Nat.zero_le, ok62_int, Int.reduceLE, Int.reduceNeg, Int.reduceToNat, Bool.and_self, Int.reduceLT, Int.natCast_zero, F_law_at_stop, fnOf, ms_law_at_stop, env0, l1, len_lst, c, e, g_str, cs, e2, e3]
theorem in_a_row_ok (rs : List Rows) (cs : List Nat) (hl : ∀ r ∈ rs, r.length ≤ 12) (hn : need rs ≤ cs.length) (hc : cs.length ≤ 1000) (hr : rs.length ≤ 100) (S0 : List D) : F_law_in_a_row [.lst (rs.map rowsD), strS cs] S0 = .new (.lst ((inRow cs rs 0).1.map strS)) S0 := by
  generalize hq : F_law_in_a_row [.lst (rs.map rowsD), strS cs] S0 = q
  simp only [q_mVar, q_mCst, q_oVal, q_oLoc, q_mOp2, q_bOf, q_bTru, q_bNot, q_bAnd, q_bOr, q_vAnd, q_vOr, q_vNot, q_mIte, q_mOr, q_aNil, q_aCons, q_aoNil, q_aoCons, q_mTup, q_nLst, q_iSeq, q_iSign, q_iR1, q_iR2, q_iEnumM, q_iRevM, q_iZipM, q_sNext, q_sSeq, q_sExpr, q_sRet, q_sRetN, q_sRetL, q_sIf, q_sSet, q_sSetN, q_sAsg, q_sFor, q_nLc, q_bYes, q_mCall, q_nCall, q_mMeth, q_mMeth0, q_mFld, q_mProp, q_nMake, q_pNone, q_pSome, q_mSl, q_mB, q_mRef, q_mMut, q_mMut0, q_mDGet, q_sPut, q_sFldP, q_sAug, q_mTx, q_mIsT, q_mInK, q_sRaise0, q_mExc, q_sTry, q_iScr, q_nDict, q_mNeg, q_mCallK, q_nCallK, Res.toS, Res.bind, Res.lift, Res.calm, resO, resL, CRes.toR, CRes.toN, CRes.toB, CRes.quiet, cellO, setE, setS, dLt, dLe, dGt, dGe, dAdd, iSub, dAddA, dEq, dNe, eqB, sEq, fInt, gNm, gTp, gsCons, gsNil, dTru, dIsN, dNotN, locAt, isLst, mutK, insC, List.getElem?_cons_zero, List.getElem?_cons_succ, List.set_cons_zero, List.set_cons_succ, List.length_cons, List.length_nil, List.length_set, Option.map_some, Option.map_none, Option.bind_some, if_true, if_false, decide_eq_true_eq, decide_true, decide_false, Nat.zero_lt_succ, Nat.reduceLT, Nat.reduceAdd, and_true, true_and, and_self, Bool.false_eq_true, List.map_cons, List.map_nil, List.cons_append, List.nil_append, List.replicate_succ, List.replicate_zero, Nat.reduceSub, List.append_nil, reduceCtorEq, reduceIte, ne_eq, not_false_eq_true, not_true_eq_false, List.tail_cons, List.head?_cons, sz_le, sz_lt, Nat.reduceLeDiff, Nat.zero_le, ok62_int, Int.reduceLE, Int.reduceNeg, Int.reduceToNat, Bool.and_self, Int.reduceLT, Int.natCast_zero, F_law_in_a_row, fnOf, ms_law_in_a_row, env0] at hq
  generalize hL : loopF _ _ _ _ _ = L at hq
  obtain ⟨env', S', eL, out, at_, x4, x5, x6, rfl, rfl, a1, a2, a3⟩ : ∃ env' S', L = .next env' S' ∧ ∃ (out : List (List Nat)) (at_ : Nat) (x4 x5 x6 : Vf.Slot), env' = [.val (.lst (rs.map rowsD)), .val (strS cs), .loc (.lst (out.map strS)), .val (.int at_), x4, x5, x6] ∧ S' = S0 ∧
      out ++ (inRow cs (rs.drop rs.length) at_).1 = (inRow cs rs 0).1 ∧ at_ + need (rs.drop rs.length) ≤ cs.length ∧ out.length = rs.length := by
    rw [← hL]
    refine loop_map (fun k env' S' => ∃ (out : List (List Nat)) (at_ : Nat) (x4 x5 x6 : Vf.Slot), env' = [.val (.lst (rs.map rowsD)), .val (strS cs), .loc (.lst (out.map strS)), .val (.int at_), x4, x5, x6] ∧ S' = S0 ∧
      out ++ (inRow cs (rs.drop k) at_).1 = (inRow cs rs 0).1 ∧ at_ + need (rs.drop k) ≤ cs.length ∧ out.length = k)
      ⟨[], 0, .none, .none, .none, rfl, rfl, by simp, by simpa using hn, rfl⟩ fun k r env S1 hx hI => ?_
    clear hL hq
    obtain ⟨out, s, x4, x5, x6, rfl, rfl, a1, a2, a3⟩ := hI
    have hk := (List.getElem?_eq_some_iff.mp hx).1
    have hr12 := hl r (List.mem_of_getElem? hx)
    have hd := drop_cons hx
    rw [hd] at a1 a2
    simp only [inRow, need] at a1 a2
    generalize hw : turnF _ _ _ _ _ = w
    simp only [q_mVar, q_mCst, q_oVal, q_oLoc, q_mOp2, q_bOf, q_bTru, q_bNot, q_bAnd, q_bOr, q_vAnd, q_vOr, q_vNot, q_mIte, q_mOr, q_aNil, q_aCons, q_aoNil, q_aoCons, q_mTup, q_nLst, q_iSeq, q_iSign, q_iR1, q_iR2, q_iEnumM, q_iRevM, q_iZipM, q_sNext, q_sSeq, q_sExpr, q_sRet, q_sRetN, q_sRetL, q_sIf, q_sSet, q_sSetN, q_sAsg, q_sFor, q_nLc, q_bYes, q_mCall, q_nCall, q_mMeth, q_mMeth0, q_mFld, q_mProp, q_nMake, q_pNone, q_pSome, q_mSl, q_mB, q_mRef, q_mMut, q_mMut0, q_mDGet, q_sPut, q_sFldP, q_sAug, q_mTx, q_mIsT, q_mInK, q_sRaise0, q_mExc, q_sTry, q_iScr, q_nDict, q_mNeg, q_mCallK, q_nCallK, Res.toS, Res.bind, Res.lift, Res.calm, resO, resL, CRes.toR, CRes.toN, CRes.toB, CRes.quiet, cellO, setE, setS, dLt, dLe, dGt, dGe, dAdd, iSub, dAddA, dEq, dNe, eqB, sEq, fInt, gNm, gTp, gsCons, gsNil, dTru, dIsN, dNotN, locAt, isLst, mutK, insC, List.getElem?_cons_zero, List.getElem?_cons_succ, List.set_cons_zero, List.set_cons_succ, List.length_cons, List.length_nil, List.length_set, Option.map_some, Option.map_none, Option.bind_some, if_true, if_false, decide_eq_true_eq, decide_true, decide_false, Nat.zero_lt_succ, Nat.reduceLT, Nat.reduceAdd, and_true, true_and, and_self, Bool.false_eq_true, List.map_cons, List.map_nil, List.cons_append, List.nil_append, List.replicate_succ, List.replicate_zero, Nat.reduceSub, List.append_nil, reduceCtorEq, reduceIte, ne_eq, not_false_eq_true, not_true_eq_false, List.tail_cons, List.head?_cons, sz_le, sz_lt, Nat.reduceLeDiff, Nat.zero_le, ok62_int, Int.reduceLE, Int.reduceNeg, Int.reduceToNat, Bool.and_self, Int.reduceLT, Int.natCast_zero, turnF, len_lst, emp_S, ok62_nat (show (r.map rowD).length ≤ 10000000 by rw [List.length_map]; omega), Int.toNat_natCast] at hw
    generalize hL : loopF _ _ _ _ _ = L at hw
    obtain ⟨env', S', eL, y6, rfl, rfl⟩ : ∃ env' S', L = .next env' S' ∧ ∃ y6, env' = [.val (.lst (rs.map rowsD)), .val (strS cs), .loc (.lst (out.map strS)), .val (.int (iter (one r cs) (r.map rowD).length ([], s)).2), .val (rowsD r), .val (strS (iter (one r cs) (r.map rowD).length ([], s)).1), y6] ∧ S' = S1 := by
      rw [← hL]
      refine loop_range (fun j env' S' => ∃ y6, env' = [.val (.lst (rs.map rowsD)), .val (strS cs), .loc (.lst (out.map strS)), .val (.int (iter (one r cs) j ([], s)).2), .val (rowsD r), .val (strS (iter (one r cs) j ([], s)).1), y6] ∧ S' = S1) ⟨x6, rfl, rfl⟩ fun j env S2 hj hI => ?_
      obtain ⟨y6, rfl, rfl⟩ := hI
      have o := one_iter r cs s j
      simp only [iter_succ]
      generalize iter (one r cs) j ([], s) = p at o
      obtain ⟨co, at_⟩ := p
      have o3 := o.at_; have o5 := o.lim
      dsimp only at o3 o5 ⊢
      have st := at_stop_ok r co (by omega) S2
      unfold one
      dsimp only
      cases g : going r co with
      | true =>
        have hgl := going_lt g
        rw [g] at st
        have e1 := ix_S (cs := cs) (k := (at_ : Int)) (c := cs.getD at_ 0) (by omega) (by rw [Int.toNat_natCast, List.getD_eq_getElem?_getD, List.getElem?_eq_getElem (by omega)]; rfl) (by omega)
        have e2 := add_S (a := co) (b := [cs.getD at_ 0]) (by simp; omega)
        rw [if_pos rfl]
        exact ⟨_, _, by simp only [q_mVar, q_mCst, q_oVal, q_oLoc, q_mOp2, q_bOf, q_bTru, q_bNot, q_bAnd, q_bOr, q_vAnd, q_vOr, q_vNot, q_mIte, q_mOr, q_aNil, q_aCons, q_aoNil, q_aoCons, q_mTup, q_nLst, q_iSeq, q_iSign, q_iR1, q_iR2, q_iEnumM, q_iRevM, q_iZipM, q_sNext, q_sSeq, q_sExpr, q_sRet, q_sRetN, q_sRetL, q_sIf, q_sSet, q_sSetN, q_sAsg, q_sFor, q_nLc, q_bYes, q_mCall, q_nCall, q_mMeth, q_mMeth0, q_mFld, q_mProp, q_nMake, q_pNone, q_pSome, q_mSl, q_mB, q_mRef, q_mMut, q_mMut0, q_mDGet, q_sPut, q_sFldP, q_sAug, q_mTx, q_mIsT, q_mInK, q_sRaise0, q_mExc, q_sTry, q_iScr, q_nDict, q_mNeg, q_mCallK, q_nCallK, Res.toS, Res.bind, Res.lift, Res.calm, resO, resL, CRes.toR, CRes.toN, CRes.toB, CRes.quiet, cellO, setE, setS, dLt, dLe, dGt, dGe, dAdd, iSub, dAddA, dEq, dNe, eqB, sEq, fInt, gNm, gTp, gsCons, gsNil, dTru, dIsN, dNotN, locAt, isLst, mutK, insC, List.getElem?_cons_zero, List.getElem?_cons_succ, List.set_cons_zero, List.set_cons_succ, List.length_cons, List.length_nil, List.length_set, Option.map_some, Option.map_none, Option.bind_some, if_true, if_false, decide_eq_true_eq, decide_true, decide_false, Nat.zero_lt_succ, Nat.reduceLT, Nat.reduceAdd, and_true, true_and, and_self, Bool.false_eq_true, List.map_cons, List.map_nil, List.cons_append, List.nil_append, List.replicate_succ, List.replicate_zero, Nat.reduceSub, List.append_nil, reduceCtorEq, reduceIte, ne_eq, not_false_eq_true, not_true_eq_false, List.tail_cons, List.head?_cons, sz_le, sz_lt, Nat.reduceLeDiff, Nat.zero_le, ok62_int, Int.reduceLE, Int.reduceNeg, Int.reduceToNat, Bool.and_self, Int.reduceLT, Int.natCast_zero, turnF, st, e1, e2, Bool.not_true, Bool.not_false] <;> rfl, _, rfl, rfl⟩
      | false =>
        rw [g] at st
        rw [if_neg Bool.false_ne_true]
        exact ⟨_, _, by simp only [q_mVar, q_mCst, q_oVal, q_oLoc, q_mOp2, q_bOf, q_bTru, q_bNot, q_bAnd, q_bOr, q_vAnd, q_vOr, q_vNot, q_mIte, q_mOr, q_aNil, q_aCons, q_aoNil, q_aoCons, q_mTup, q_nLst, q_iSeq, q_iSign, q_iR1, q_iR2, q_iEnumM, q_iRevM, q_iZipM, q_sNext, q_sSeq, q_sExpr, q_sRet, q_sRetN, q_sRetL, q_sIf, q_sSet, q_sSetN, q_sAsg, q_sFor, q_nLc, q_bYes, q_mCall, q_nCall, q_mMeth, q_mMeth0, q_mFld, q_mProp, q_nMake, q_pNone, q_pSome, q_mSl, q_mB, q_mRef, q_mMut, q_mMut0, q_mDGet, q_sPut, q_sFldP, q_sAug, q_mTx, q_mIsT, q_mInK, q_sRaise0, q_mExc, q_sTry, q_iScr, q_nDict, q_mNeg, q_mCallK, q_nCallK, Res.toS, Res.bind, Res.lift, Res.calm, resO, resL, CRes.toR, CRes.toN, CRes.toB, CRes.quiet, cellO, setE, setS, dLt, dLe, dGt, dGe, dAdd, iSub, dAddA, dEq, dNe, eqB, sEq, fInt, gNm, gTp, gsCons, gsNil, dTru, dIsN, dNotN, locAt, isLst, mutK, insC, List.getElem?_cons_zero, List.getElem?_cons_succ, List.set_cons_zero, List.set_cons_succ, List.length_cons, List.length_nil, List.length_set, Option.map_some, Option.map_none, Option.bind_some, if_true, if_false, decide_eq_true_eq, decide_true, decide_false, Nat.zero_lt_succ, Nat.reduceLT, Nat.reduceAdd, and_true, true_and, and_self, Bool.false_eq_true, List.map_cons, List.map_nil, List.cons_append, List.nil_append, List.replicate_succ, List.replicate_zero, Nat.reduceSub, List.append_nil, reduceCtorEq, reduceIte, ne_eq, not_false_eq_true, not_true_eq_false, List.tail_cons, List.head?_cons, sz_le, sz_lt, Nat.reduceLeDiff, Nat.zero_le, ok62_int, Int.reduceLE, Int.reduceNeg, Int.reduceToNat, Bool.and_self, Int.reduceLT, Int.natCast_zero, turnF, st, Bool.not_true, Bool.not_false] <;> rfl, _, rfl, rfl⟩
    rw [List.length_map] at eL
    have ap := app_eq (xs := out.map strS) (y := strS (oneN r cs s).1) (by rw [List.length_map]; omega)
    have oo := oneN_I r cs s
    have o3 := oo.at_; have o5 := oo.lim
    refine ⟨_, _, by rw [← hw]; simp only [q_mVar, q_mCst, q_oVal, q_oLoc, q_mOp2, q_bOf, q_bTru, q_bNot, q_bAnd, q_bOr, q_vAnd, q_vOr, q_vNot, q_mIte, q_mOr, q_aNil, q_aCons, q_aoNil, q_aoCons, q_mTup, q_nLst, q_iSeq, q_iSign, q_iR1, q_iR2, q_iEnumM, q_iRevM, q_iZipM, q_sNext, q_sSeq, q_sExpr, q_sRet, q_sRetN, q_sRetL, q_sIf, q_sSet, q_sSetN, q_sAsg, q_sFor, q_nLc, q_bYes, q_mCall, q_nCall, q_mMeth, q_mMeth0, q_mFld, q_mProp, q_nMake, q_pNone, q_pSome, q_mSl, q_mB, q_mRef, q_mMut, q_mMut0, q_mDGet, q_sPut, q_sFldP, q_sAug, q_mTx, q_mIsT, q_mInK, q_sRaise0, q_mExc, q_sTry, q_iScr, q_nDict, q_mNeg, q_mCallK, q_nCallK, Res.toS, Res.bind, Res.lift, Res.calm, resO, resL, CRes.toR, CRes.toN, CRes.toB, CRes.quiet, cellO, setE, setS, dLt, dLe, dGt, dGe, dAdd, iSub, dAddA, dEq, dNe, eqB, sEq, fInt, gNm, gTp, gsCons, gsNil, dTru, dIsN, dNotN, locAt, isLst, mutK, insC, List.getElem?_cons_zero, List.getElem?_cons_succ, List.set_cons_zero, List.set_cons_succ, List.length_cons, List.length_nil, List.length_set, Option.map_some, Option.map_none, Option.bind_some, if_true, if_false, decide_eq_true_eq, decide_true, decide_false, Nat.zero_lt_succ, Nat.reduceLT, Nat.reduceAdd, and_true, true_and, and_self, Bool.false_eq_true, List.map_cons, List.map_nil, List.cons_append, List.nil_append, List.replicate_succ, List.replicate_zero, Nat.reduceSub, List.append_nil, reduceCtorEq, reduceIte, ne_eq, not_false_eq_true, not_true_eq_false, List.tail_cons, List.head?_cons, sz_le, sz_lt, Nat.reduceLeDiff, Nat.zero_le, ok62_int, Int.reduceLE, Int.reduceNeg, Int.reduceToNat, Bool.and_self, Int.reduceLT, Int.natCast_zero, eL, show iter (one r cs) r.length ([], s) = oneN r cs s from rfl, ap] <;> rfl, out ++ [(oneN r cs s).1], (oneN r cs s).2, _, _, _, by rw [List.map_append]; rfl, rfl, ?_, by omega, by simp [a3]⟩
    rw [← a1]; simp
  rw [List.drop_length] at a1
  simp only [q_mVar, q_mCst, q_oVal, q_oLoc, q_mOp2, q_bOf, q_bTru, q_bNot, q_bAnd, q_bOr, q_vAnd, q_vOr, q_vNot, q_mIte, q_mOr, q_aNil, q_aCons, q_aoNil, q_aoCons, q_mTup, q_nLst, q_iSeq, q_iSign, q_iR1, q_iR2, q_iEnumM, q_iRevM, q_iZipM, q_sNext, q_sSeq, q_sExpr, q_sRet, q_sRetN, q_sRetL, q_sIf, q_sSet, q_sSetN, q_sAsg, q_sFor, q_nLc, q_bYes, q_mCall, q_nCall, q_mMeth, q_mMeth0, q_mFld, q_mProp, q_nMake, q_pNone, q_pSome, q_mSl, q_mB, q_mRef, q_mMut, q_mMut0, q_mDGet, q_sPut, q_sFldP, q_sAug, q_mTx, q_mIsT, q_mInK, q_sRaise0, q_mExc, q_sTry, q_iScr, q_nDict, q_mNeg, q_mCallK, q_nCallK, Res.toS, Res.bind, Res.lift, Res.calm, resO, resL, CRes.toR, CRes.toN, CRes.toB, CRes.quiet, cellO, setE, setS, dLt, dLe, dGt, dGe, dAdd, iSub, dAddA, dEq, dNe, eqB, sEq, fInt, gNm, gTp, gsCons, gsNil, dTru, dIsN, dNotN, locAt, isLst, mutK, insC, List.getElem?_cons_zero, List.getElem?_cons_succ, List.set_cons_zero, List.set_cons_succ, List.length_cons, List.length_nil, List.length_set, Option.map_some, Option.map_none, Option.bind_some, if_true, if_false, decide_eq_true_eq, decide_true, decide_false, Nat.zero_lt_succ, Nat.reduceLT, Nat.reduceAdd, and_true, true_and, and_self, Bool.false_eq_true, List.map_cons, List.map_nil, List.cons_append, List.nil_append, List.replicate_succ, List.replicate_zero, Nat.reduceSub, List.append_nil, reduceCtorEq, reduceIte, ne_eq, not_false_eq_true, not_true_eq_false, List.tail_cons, List.head?_cons, sz_le, sz_lt, Nat.reduceLeDiff, Nat.zero_le, ok62_int, Int.reduceLE, Int.reduceNeg, Int.reduceToNat, Bool.and_self, Int.reduceLT, Int.natCast_zero, eL] at hq
  subst hq
  simp only [inRow, List.append_nil] at a1
  rw [a1]
end K84
namespace K84
open PySem PySem.Spec PyProof.Rows L2 L2H Vf
open SX (S)
def maxLen (rs : List Rows) : Nat := (maxI (rs.map fun r => (r.length : Int))).toNat
theorem maxLen_ge {rs : List Rows} {r : Rows} (h : r ∈ rs) : r.length ≤ maxLen rs := by
  have := maxI_ge (rs.map fun r => (r.length : Int)) (r.length : Int) (List.mem_map_of_mem h)
  unfold maxLen; omega
theorem maxLen_nn {rs : List Rows} (h : rs ≠ []) : maxI (rs.map fun r => (r.length : Int)) = (maxLen rs : Nat) := by
  obtain ⟨r, hr⟩ := List.exists_mem_of_ne_nil _ h
  have := maxI_ge (rs.map fun r => (r.length : Int)) (r.length : Int) (List.mem_map_of_mem hr)
  unfold maxLen; omega
theorem maxLen_le {rs : List Rows} (h : ∀ r ∈ rs, r.length ≤ 12) (ne : rs ≠ []) : maxLen rs ≤ 12 := by
  have := (maxI_mem (l := rs.map fun r => (r.length : Int)) (by simpa using ne)).1
  obtain ⟨r, hr, e⟩ := List.mem_map.mp this
  have := h r hr
  unfold maxLen; omega
theorem set_mid {α : Type} (done rest : List α) (x y : α) : (done ++ x :: rest).set done.length y = done ++ y :: rest := by
  rw [List.set_append_right _ _ (Nat.le_refl _), Nat.sub_self]; rfl
theorem get_mid {α : Type} (done rest : List α) (x : α) : (done ++ x :: rest)[done.length]? = some x := by
  rw [List.getElem?_append_right (Nat.le_refl _), Nat.sub_self]; rfl
theorem by_turns_ok (rs : List Rows) (cs : List Nat) (hl : ∀ r ∈ rs, r.length ≤ 12) (ne : rs ≠ []) (hn : need rs ≤ cs.length) (hc : cs.length ≤ 1000) (hr : rs.length ≤ 100) (S0 : List D) :
    F_law_by_turns [.lst (rs.map rowsD), strS cs] S0 = .new (.lst ((rounds cs rs (maxLen rs)).1.map strS)) S0 := by
  generalize hq : F_law_by_turns [.lst (rs.map rowsD), strS cs] S0 = q
  have lc1 := lc_pureT (g := gNm 6) (vs := [6]) (m := mCst (.str "")) (f := rowsD) (h := fun _ => strS []) (xs := rs) (env := [.val (.lst (rs.map rowsD)), .val (strS cs), .none, .none, .none, .none, .none]) (S := S0) (by omega) fun x hx => ⟨_, _, rfl, by simp only [q_mVar, q_mCst, q_oVal, q_oLoc, q_mOp2, q_bOf, q_bTru, q_bNot, q_bAnd, q_bOr, q_vAnd, q_vOr, q_vNot, q_mIte, q_mOr, q_aNil, q_aCons, q_aoNil, q_aoCons, q_mTup, q_nLst, q_iSeq, q_iSign, q_iR1, q_iR2, q_iEnumM, q_iRevM, q_iZipM, q_sNext, q_sSeq, q_sExpr, q_sRet, q_sRetN, q_sRetL, q_sIf, q_sSet, q_sSetN, q_sAsg, q_sFor, q_nLc, q_bYes, q_mCall, q_nCall, q_mMeth, q_mMeth0, q_mFld, q_mProp, q_nMake, q_pNone, q_pSome, q_mSl, q_mB, q_mRef, q_mMut, q_mMut0, q_mDGet, q_sPut, q_sFldP, q_sAug, q_mTx, q_mIsT, q_mInK, q_sRaise0, q_mExc, q_sTry, q_iScr, q_nDict, q_mNeg, q_mCallK, q_nCallK, Res.toS, Res.bind, Res.lift, Res.calm, resO, resL, CRes.toR, CRes.toN, CRes.toB, CRes.quiet, cellO, setE, setS, dLt, dLe, dGt, dGe, dAdd, iSub, dAddA, dEq, dNe, eqB, sEq, fInt, gNm, gTp, gsCons, gsNil, dTru, dIsN, dNotN, locAt, isLst, mutK, insC, List.getElem?_cons_zero, List.getElem?_cons_succ, List.set_cons_zero, List.set_cons_succ, List.length_cons, List.length_nil, List.length_set, Option.map_some, Option.map_none, Option.bind_some, if_true, if_false, decide_eq_true_eq, decide_true, decide_false, Nat.zero_lt_succ, Nat.reduceLT, Nat.reduceAdd, and_true, true_and, and_self, Bool.false_eq_true, List.map_cons, List.map_nil, List.cons_append, List.nil_append, List.replicate_succ, List.replicate_zero, Nat.reduceSub, List.append_nil, reduceCtorEq, reduceIte, ne_eq, not_false_eq_true, not_true_eq_false, List.tail_cons, List.head?_cons, sz_le, sz_lt, Nat.reduceLeDiff, Nat.zero_le, ok62_int, Int.reduceLE, Int.reduceNeg, Int.reduceToNat, Bool.and_self, Int.reduceLT, Int.natCast_zero, emp_S] <;> rfl, by simp only [q_mVar, q_mCst, q_oVal, q_oLoc, q_mOp2, q_bOf, q_bTru, q_bNot, q_bAnd, q_bOr, q_vAnd, q_vOr, q_vNot, q_mIte, q_mOr, q_aNil, q_aCons, q_aoNil, q_aoCons, q_mTup, q_nLst, q_iSeq, q_iSign, q_iR1, q_iR2, q_iEnumM, q_iRevM, q_iZipM, q_sNext, q_sSeq, q_sExpr, q_sRet, q_sRetN, q_sRetL, q_sIf, q_sSet, q_sSetN, q_sAsg, q_sFor, q_nLc, q_bYes, q_mCall, q_nCall, q_mMeth, q_mMeth0, q_mFld, q_mProp, q_nMake, q_pNone, q_pSome, q_mSl, q_mB, q_mRef, q_mMut, q_mMut0, q_mDGet, q_sPut, q_sFldP, q_sAug, q_mTx, q_mIsT, q_mInK, q_sRaise0, q_mExc, q_sTry, q_iScr, q_nDict, q_mNeg, q_mCallK, q_nCallK, Res.toS, Res.bind, Res.lift, Res.calm, resO, resL, CRes.toR, CRes.toN, CRes.toB, CRes.quiet, cellO, setE, setS, dLt, dLe, dGt, dGe, dAdd, iSub, dAddA, dEq, dNe, eqB, sEq, fInt, gNm, gTp, gsCons, gsNil, dTru, dIsN, dNotN, locAt, isLst, mutK, insC, List.getElem?_cons_zero, List.getElem?_cons_succ, List.set_cons_zero, List.set_cons_succ, List.length_cons, List.length_nil, List.length_set, Option.map_some, Option.map_none, Option.bind_some, if_true, if_false, decide_eq_true_eq, decide_true, decide_false, Nat.zero_lt_succ, Nat.reduceLT, Nat.reduceAdd, and_true, true_and, and_self, Bool.false_eq_true, List.map_cons, List.map_nil, List.cons_append, List.nil_append, List.replicate_succ, List.replicate_zero, Nat.reduceSub, List.append_nil, reduceCtorEq, reduceIte, ne_eq, not_false_eq_true, not_true_eq_false, List.tail_cons, List.head?_cons, sz_le, sz_lt, Nat.reduceLeDiff, Nat.zero_le, ok62_int, Int.reduceLE, Int.reduceNeg, Int.reduceToNat, Bool.and_self, Int.reduceLT, Int.natCast_zero, wipeE]⟩
  have lc2 := lc_pureT (g := gNm 6) (vs := [6]) (m := mB fLen (aoCons (oLoc 6) aoNil)) (f := rowsD) (h := fun r => .int (r.length : Int)) (xs := rs) (env := [.val (.lst (rs.map rowsD)), .val (strS cs), .loc (.lst (rs.map fun _ => strS [])), .val (.int 0), .none, .none, .none]) (S := S0) (by omega) fun x hx => ⟨_, _, rfl, by simp only [q_mVar, q_mCst, q_oVal, q_oLoc, q_mOp2, q_bOf, q_bTru, q_bNot, q_bAnd, q_bOr, q_vAnd, q_vOr, q_vNot, q_mIte, q_mOr, q_aNil, q_aCons, q_aoNil, q_aoCons, q_mTup, q_nLst, q_iSeq, q_iSign, q_iR1, q_iR2, q_iEnumM, q_iRevM, q_iZipM, q_sNext, q_sSeq, q_sExpr, q_sRet, q_sRetN, q_sRetL, q_sIf, q_sSet, q_sSetN, q_sAsg, q_sFor, q_nLc, q_bYes, q_mCall, q_nCall, q_mMeth, q_mMeth0, q_mFld, q_mProp, q_nMake, q_pNone, q_pSome, q_mSl, q_mB, q_mRef, q_mMut, q_mMut0, q_mDGet, q_sPut, q_sFldP, q_sAug, q_mTx, q_mIsT, q_mInK, q_sRaise0, q_mExc, q_sTry, q_iScr, q_nDict, q_mNeg, q_mCallK, q_nCallK, Res.toS, Res.bind, Res.lift, Res.calm, resO, resL, CRes.toR, CRes.toN, CRes.toB, CRes.quiet, cellO, setE, setS, dLt, dLe, dGt, dGe, dAdd, iSub, dAddA, dEq, dNe, eqB, sEq, fInt, gNm, gTp, gsCons, gsNil, dTru, dIsN, dNotN, locAt, isLst, mutK, insC, List.getElem?_cons_zero, List.getElem?_cons_succ, List.set_cons_zero, List.set_cons_succ, List.length_cons, List.length_nil, List.length_set, Option.map_some, Option.map_none, Option.bind_some, if_true, if_false, decide_eq_true_eq, decide_true, decide_false, Nat.zero_lt_succ, Nat.reduceLT, Nat.reduceAdd, and_true, true_and, and_self, Bool.false_eq_true, List.map_cons, List.map_nil, List.cons_append, List.nil_append, List.replicate_succ, List.replicate_zero, Nat.reduceSub, List.append_nil, reduceCtorEq, reduceIte, ne_eq, not_false_eq_true, not_true_eq_false, List.tail_cons, List.head?_cons, sz_le, sz_lt, Nat.reduceLeDiff, Nat.zero_le, ok62_int, Int.reduceLE, Int.reduceNeg, Int.reduceToNat, Bool.and_self, Int.reduceLT, Int.natCast_zero, len_lst, List.length_map] <;> rfl, by simp only [q_mVar, q_mCst, q_oVal, q_oLoc, q_mOp2, q_bOf, q_bTru, q_bNot, q_bAnd, q_bOr, q_vAnd, q_vOr, q_vNot, q_mIte, q_mOr, q_aNil, q_aCons, q_aoNil, q_aoCons, q_mTup, q_nLst, q_iSeq, q_iSign, q_iR1, q_iR2, q_iEnumM, q_iRevM, q_iZipM, q_sNext, q_sSeq, q_sExpr, q_sRet, q_sRetN, q_sRetL, q_sIf, q_sSet, q_sSetN, q_sAsg, q_sFor, q_nLc, q_bYes, q_mCall, q_nCall, q_mMeth, q_mMeth0, q_mFld, q_mProp, q_nMake, q_pNone, q_pSome, q_mSl, q_mB, q_mRef, q_mMut, q_mMut0, q_mDGet, q_sPut, q_sFldP, q_sAug, q_mTx, q_mIsT, q_mInK, q_sRaise0, q_mExc, q_sTry, q_iScr, q_nDict, q_mNeg, q_mCallK, q_nCallK, Res.toS, Res.bind, Res.lift, Res.calm, resO, resL, CRes.toR, CRes.toN, CRes.toB, CRes.quiet, cellO, setE, setS, dLt, dLe, dGt, dGe, dAdd, iSub, dAddA, dEq, dNe, eqB, sEq, fInt, gNm, gTp, gsCons, gsNil, dTru, dIsN, dNotN, locAt, isLst, mutK, insC, List.getElem?_cons_zero, List.getElem?_cons_succ, List.set_cons_zero, List.set_cons_succ, List.length_cons, List.length_nil, List.length_set, Option.map_some, Option.map_none, Option.bind_some, if_true, if_false, decide_eq_true_eq, decide_true, decide_false, Nat.zero_lt_succ, Nat.reduceLT, Nat.reduceAdd, and_true, true_and, and_self, Bool.false_eq_true, List.map_cons, List.map_nil, List.cons_append, List.nil_append, List.replicate_succ, List.replicate_zero, Nat.reduceSub, List.append_nil, reduceCtorEq, reduceIte, ne_eq, not_false_eq_true, not_true_eq_false, List.tail_cons, List.head?_cons, sz_le, sz_lt, Nat.reduceLeDiff, Nat.zero_le, ok62_int, Int.reduceLE, Int.reduceNeg, Int.reduceToNat, Bool.and_self, Int.reduceLT, Int.natCast_zero, wipeE]⟩
  have mx := max_ints (xs := rs) (f := fun r => (r.length : Int)) ne
  rw [maxLen_nn ne] at mx
  have m12 := maxLen_le hl ne
  simp only [q_mVar, q_mCst, q_oVal, q_oLoc, q_mOp2, q_bOf, q_bTru, q_bNot, q_bAnd, q_bOr, q_vAnd, q_vOr, q_vNot, q_mIte, q_mOr, q_aNil, q_aCons, q_aoNil, q_aoCons, q_mTup, q_nLst, q_iSeq, q_iSign, q_iR1, q_iR2, q_iEnumM, q_iRevM, q_iZipM, q_sNext, q_sSeq, q_sExpr, q_sRet, q_sRetN, q_sRetL, q_sIf, q_sSet, q_sSetN, q_sAsg, q_sFor, q_nLc, q_bYes, q_mCall, q_nCall, q_mMeth, q_mMeth0, q_mFld, q_mProp, q_nMake, q_pNone, q_pSome, q_mSl, q_mB, q_mRef, q_mMut, q_mMut0, q_mDGet, q_sPut, q_sFldP, q_sAug, q_mTx, q_mIsT, q_mInK, q_sRaise0, q_mExc, q_sTry, q_iScr, q_nDict, q_mNeg, q_mCallK, q_nCallK, Res.toS, Res.bind, Res.lift, Res.calm, resO, resL, CRes.toR, CRes.toN, CRes.toB, CRes.quiet, cellO, setE, setS, dLt, dLe, dGt, dGe, dAdd, iSub, dAddA, dEq, dNe, eqB, sEq, fInt, gNm, gTp, gsCons, gsNil, dTru, dIsN, dNotN, locAt, isLst, mutK, insC, List.getElem?_cons_zero, List.getElem?_cons_succ, List.set_cons_zero, List.set_cons_succ, List.length_cons, List.length_nil, List.length_set, Option.map_some, Option.map_none, Option.bind_some, if_true, if_false, decide_eq_true_eq, decide_true, decide_false, Nat.zero_lt_succ, Nat.reduceLT, Nat.reduceAdd, and_true, true_and, and_self, Bool.false_eq_true, List.map_cons, List.map_nil, List.cons_append, List.nil_append, List.replicate_succ, List.replicate_zero, Nat.reduceSub, List.append_nil, reduceCtorEq, reduceIte, ne_eq, not_false_eq_true, not_true_eq_false, List.tail_cons, List.head?_cons, sz_le, sz_lt, Nat.reduceLeDiff, Nat.zero_le, ok62_int, Int.reduceLE, Int.reduceNeg, Int.reduceToNat, Bool.and_self, Int.reduceLT, Int.natCast_zero, F_law_by_turns, fnOf, ms_law_by_turns, env0, okVs, wipeE, List.all_cons, List.all_nil, Bool.and_true, backE, lc1, lc2, mx, ok62_nat (show maxLen rs ≤ 10000000 by omega), Int.toNat_natCast] at hq
  generalize hL : loopF _ _ _ _ _ = L at hq
  have hst : (rs.map fun _ => strS []) = (rounds cs rs 0).1.map strS := by show _ = (rs.map fun _ => []).map strS; rw [List.map_map]; rfl
  obtain ⟨env', S', eL, x4, x5, x6, rfl, rfl⟩ : ∃ env' S', L = .next env' S' ∧ ∃ (x4 x5 x6 : Vf.Slot), env' = [.val (.lst (rs.map rowsD)), .val (strS cs), .loc (.lst ((rounds cs rs (maxLen rs)).1.map strS)), .val (.int (rounds cs rs (maxLen rs)).2), x4, x5, x6] ∧ S' = S0 := by
    rw [← hL]
    refine loop_range (fun j env' S' => ∃ (x4 x5 x6 : Vf.Slot), env' = [.val (.lst (rs.map rowsD)), .val (strS cs), .loc (.lst ((rounds cs rs j).1.map strS)), .val (.int (rounds cs rs j).2), x4, x5, x6] ∧ S' = S0)
      ⟨.none, .none, .none, by rw [hst]; rfl, rfl⟩ fun j env S1 hj hI => ?_
    clear hL hq
    obtain ⟨x4, x5, x6, rfl, rfl⟩ := hI
    have I1 := rounds_I cs rs j
    have I2 := rounds_I cs rs (j + 1)
    have t2 := turnI_total I2.1
    have hX : rounds cs rs (j + 1) = pass cs rs (rounds cs rs j).1 (rounds cs rs j).2 := rfl
    generalize rounds cs rs (j + 1) = X at I2 t2 hX
    generalize rounds cs rs j = p at I1 hX
    obtain ⟨co0, at0⟩ := p
    obtain ⟨cX, aX⟩ := X
    dsimp only at I1 I2 t2 hX ⊢
    have len0 := turnI_len I1.1
    generalize hw : turnF _ _ _ _ _ = w
    simp only [q_mVar, q_mCst, q_oVal, q_oLoc, q_mOp2, q_bOf, q_bTru, q_bNot, q_bAnd, q_bOr, q_vAnd, q_vOr, q_vNot, q_mIte, q_mOr, q_aNil, q_aCons, q_aoNil, q_aoCons, q_mTup, q_nLst, q_iSeq, q_iSign, q_iR1, q_iR2, q_iEnumM, q_iRevM, q_iZipM, q_sNext, q_sSeq, q_sExpr, q_sRet, q_sRetN, q_sRetL, q_sIf, q_sSet, q_sSetN, q_sAsg, q_sFor, q_nLc, q_bYes, q_mCall, q_nCall, q_mMeth, q_mMeth0, q_mFld, q_mProp, q_nMake, q_pNone, q_pSome, q_mSl, q_mB, q_mRef, q_mMut, q_mMut0, q_mDGet, q_sPut, q_sFldP, q_sAug, q_mTx, q_mIsT, q_mInK, q_sRaise0, q_mExc, q_sTry, q_iScr, q_nDict, q_mNeg, q_mCallK, q_nCallK, Res.toS, Res.bind, Res.lift, Res.calm, resO, resL, CRes.toR, CRes.toN, CRes.toB, CRes.quiet, cellO, setE, setS, dLt, dLe, dGt, dGe, dAdd, iSub, dAddA, dEq, dNe, eqB, sEq, fInt, gNm, gTp, gsCons, gsNil, dTru, dIsN, dNotN, locAt, isLst, mutK, insC, List.getElem?_cons_zero, List.getElem?_cons_succ, List.set_cons_zero, List.set_cons_succ, List.length_cons, List.length_nil, List.length_set, Option.map_some, Option.map_none, Option.bind_some, if_true, if_false, decide_eq_true_eq, decide_true, decide_false, Nat.zero_lt_succ, Nat.reduceLT, Nat.reduceAdd, and_true, true_and, and_self, Bool.false_eq_true, List.map_cons, List.map_nil, List.cons_append, List.nil_append, List.replicate_succ, List.replicate_zero, Nat.reduceSub, List.append_nil, reduceCtorEq, reduceIte, ne_eq, not_false_eq_true, not_true_eq_false, List.tail_cons, List.head?_cons, sz_le, sz_lt, Nat.reduceLeDiff, Nat.zero_le, ok62_int, Int.reduceLE, Int.reduceNeg, Int.reduceToNat, Bool.and_self, Int.reduceLT, Int.natCast_zero, turnF, len_lst, List.length_map, ok62_nat (show rs.length ≤ 10000000 by omega), Int.toNat_natCast] at hw
    generalize hL : loopF _ _ _ _ _ = L at hw
    obtain ⟨env', S', eL, done, rest, at_, y5, y6, rfl, rfl, b1, b2, b3, b4⟩ : ∃ env' S', L = .next env' S' ∧ ∃ (done rest : List (List Nat)) (at_ : Nat) (y5 y6 : Vf.Slot), env' = [.val (.lst (rs.map rowsD)), .val (strS cs), .loc (.lst ((done ++ rest).map strS)), .val (.int at_), .val (.int (0 + (j : Int))), y5, y6] ∧ S' = S1 ∧
        done.length = rs.length ∧ done ++ (pass cs (rs.drop rs.length) rest at_).1 = cX ∧ (pass cs (rs.drop rs.length) rest at_).2 = aX ∧ rest.length = (rs.drop rs.length).length := by
      rw [← hL]
      refine loop_range (fun i env' S' => ∃ (done rest : List (List Nat)) (at_ : Nat) (y5 y6 : Vf.Slot), env' = [.val (.lst (rs.map rowsD)), .val (strS cs), .loc (.lst ((done ++ rest).map strS)), .val (.int at_), .val (.int (0 + (j : Int))), y5, y6] ∧ S' = S1 ∧
        done.length = i ∧ done ++ (pass cs (rs.drop i) rest at_).1 = cX ∧ (pass cs (rs.drop i) rest at_).2 = aX ∧ rest.length = (rs.drop i).length)
        ⟨[], co0, at0, x5, x6, rfl, rfl, rfl, by rw [List.drop_zero, ← hX]; rfl, by rw [List.drop_zero, ← hX], by simpa using len0⟩ fun i env S2 hi hI => ?_
      clear hL hw
      obtain ⟨done, rest, at_, y5, y6, rfl, rfl, b1, b2, b3, b4⟩ := hI
      have hx : rs[i]? = some rs[i] := List.getElem?_eq_getElem hi
      generalize rs[i] = r at hx
      have hd := drop_cons hx
      rw [hd] at b2 b3 b4
      cases rest with
      | nil => simp at b4
      | cons co rest =>
        have hr12 := hl r (List.mem_of_getElem? hx)
        have e0 := ix_L (xs := rs.map rowsD) (i := (0 + (i : Int))) (x := rowsD r) (by omega) (by rw [List.getElem?_map, show (0 + (i : Int)).toNat = i by omega, hx]; rfl)
        have e1 := ix_L (xs := (done ++ co :: rest).map strS) (i := (0 + (i : Int))) (x := strS co) (by omega) (by rw [List.getElem?_map, show (0 + (i : Int)).toNat = done.length by omega, get_mid]; rfl)
        simp only [pass] at b2 b3
        -- the length of a course
        have hco : co.length ≤ 1000 := by
          have m : co.length ≤ total cX := by
            have : ∀ (l : List (List Nat)) (c : List Nat), c ∈ l → c.length ≤ total l := by
              intro l
              induction l with
              | nil => intro c h; cases h
              | cons x l ih => intro c h; simp only [total]; rcases List.mem_cons.mp h with rfl | h
                               · omega
                               · have := ih c h; omega
            rw [← b2]
            by_cases g : going r co = true
            · rw [if_pos g]
              have := this (done ++ (co ++ [cs.getD at_ 0]) :: (pass cs (rs.drop (i + 1)) rest (at_ + 1)).1) (co ++ [cs.getD at_ 0]) (by simp)
              rw [List.length_append] at this
              dsimp only; omega
            · rw [if_neg g]
              exact this _ _ (by simp)
          omega
        have st := at_stop_ok r co hco S2
        cases g : going r co with
        | true =>
          rw [g, if_pos rfl] at b2 b3
          rw [g] at st
          have hat := (pass_total cs (rs.drop (i + 1)) rest (at_ + 1)).2
          dsimp only at b2 b3
          have e2 := ix_S (cs := cs) (k := (at_ : Int)) (c := cs.getD at_ 0) (by omega) (by rw [Int.toNat_natCast, List.getD_eq_getElem?_getD, List.getElem?_eq_getElem (by omega)]; rfl) (by omega)
          have e3 := add_S (a := co) (b := [cs.getD at_ 0]) (by simp; omega)
          have e4 := put_L (xs := (done ++ co :: rest).map strS) (i := (0 + (i : Int))) (v := strS (co ++ [cs.getD at_ 0])) (by omega) (by simp; omega)
          rw [show (0 + (i : Int)).toNat = done.length by omega, ← List.map_set, set_mid] at e4
          refine ⟨_, _, by simp only [q_mVar, q_mCst, q_oVal, q_oLoc, q_mOp2, q_bOf, q_bTru, q_bNot, q_bAnd, q_bOr, q_vAnd, q_vOr, q_vNot, q_mIte, q_mOr, q_aNil, q_aCons, q_aoNil, q_aoCons, q_mTup, q_nLst, q_iSeq, q_iSign, q_iR1, q_iR2, q_iEnumM, q_iRevM, q_iZipM, q_sNext, q_sSeq, q_sExpr, q_sRet, q_sRetN, q_sRetL, q_sIf, q_sSet, q_sSetN, q_sAsg, q_sFor, q_nLc, q_bYes, q_mCall, q_nCall, q_mMeth, q_mMeth0, q_mFld, q_mProp, q_nMake, q_pNone, q_pSome, q_mSl, q_mB, q_mRef, q_mMut, q_mMut0, q_mDGet, q_sPut, q_sFldP, q_sAug, q_mTx, q_mIsT, q_mInK, q_sRaise0, q_mExc, q_sTry, q_iScr, q_nDict, q_mNeg, q_mCallK, q_nCallK, Res.toS, Res.bind, Res.lift, Res.calm, resO, resL, CRes.toR, CRes.toN, CRes.toB, CRes.quiet, cellO, setE, setS, dLt, dLe, dGt, dGe, dAdd, iSub, dAddA, dEq, dNe, eqB, sEq, fInt, gNm, gTp, gsCons, gsNil, dTru, dIsN, dNotN, locAt, isLst, mutK, insC, List.getElem?_cons_zero, List.getElem?_cons_succ, List.set_cons_zero, List.set_cons_succ, List.length_cons, List.length_nil, List.length_set, Option.map_some, Option.map_none, Option.bind_some, if_true, if_false, decide_eq_true_eq, decide_true, decide_false, Nat.zero_lt_succ, Nat.reduceLT, Nat.reduceAdd, and_true, true_and, and_self, Bool.false_eq_true, List.map_cons, List.map_nil, List.cons_append, List.nil_append, List.replicate_succ, List.replicate_zero, Nat.reduceSub, List.append_nil, reduceCtorEq, reduceIte, ne_eq, not_false_eq_true, not_true_eq_false, List.tail_cons, List.head?_cons, sz_le, sz_lt, Nat.reduceLeDiff, Nat.zero_le, ok62_int, Int.reduceLE, Int.reduceNeg, Int.reduceToNat, Bool.and_self, Int.reduceLT, Int.natCast_zero, turnF, e0, e1, st, e2, e3, e4, Bool.not_true, Bool.not_false] <;> rfl, done ++ [co ++ [cs.getD at_ 0]], rest, at_ + 1, .val (.int (0 + (i : Int))), y6, ?_, rfl, by simp [b1], ?_, b3, by simpa using b4⟩
          · simp
          · rw [← b2]; simp
        | false =>
          rw [g, if_neg Bool.false_ne_true] at b2 b3
          rw [g] at st
          refine ⟨_, _, by simp only [q_mVar, q_mCst, q_oVal, q_oLoc, q_mOp2, q_bOf, q_bTru, q_bNot, q_bAnd, q_bOr, q_vAnd, q_vOr, q_vNot, q_mIte, q_mOr, q_aNil, q_aCons, q_aoNil, q_aoCons, q_mTup, q_nLst, q_iSeq, q_iSign, q_iR1, q_iR2, q_iEnumM, q_iRevM, q_iZipM, q_sNext, q_sSeq, q_sExpr, q_sRet, q_sRetN, q_sRetL, q_sIf, q_sSet, q_sSetN, q_sAsg, q_sFor, q_nLc, q_bYes, q_mCall, q_nCall, q_mMeth, q_mMeth0, q_mFld, q_mProp, q_nMake, q_pNone, q_pSome, q_mSl, q_mB, q_mRef, q_mMut, q_mMut0, q_mDGet, q_sPut, q_sFldP, q_sAug, q_mTx, q_mIsT, q_mInK, q_sRaise0, q_mExc, q_sTry, q_iScr, q_nDict, q_mNeg, q_mCallK, q_nCallK, Res.toS, Res.bind, Res.lift, Res.calm, resO, resL, CRes.toR, CRes.toN, CRes.toB, CRes.quiet, cellO, setE, setS, dLt, dLe, dGt, dGe, dAdd, iSub, dAddA, dEq, dNe, eqB, sEq, fInt, gNm, gTp, gsCons, gsNil, dTru, dIsN, dNotN, locAt, isLst, mutK, insC, List.getElem?_cons_zero, List.getElem?_cons_succ, List.set_cons_zero, List.set_cons_succ, List.length_cons, List.length_nil, List.length_set, Option.map_some, Option.map_none, Option.bind_some, if_true, if_false, decide_eq_true_eq, decide_true, decide_false, Nat.zero_lt_succ, Nat.reduceLT, Nat.reduceAdd, and_true, true_and, and_self, Bool.false_eq_true, List.map_cons, List.map_nil, List.cons_append, List.nil_append, List.replicate_succ, List.replicate_zero, Nat.reduceSub, List.append_nil, reduceCtorEq, reduceIte, ne_eq, not_false_eq_true, not_true_eq_false, List.tail_cons, List.head?_cons, sz_le, sz_lt, Nat.reduceLeDiff, Nat.zero_le, ok62_int, Int.reduceLE, Int.reduceNeg, Int.reduceToNat, Bool.and_self, Int.reduceLT, Int.natCast_zero, turnF, e0, e1, st, Bool.not_true, Bool.not_false] <;> rfl, done ++ [co], rest, at_, .val (.int (0 + (i : Int))), y6, ?_, rfl, by simp [b1], ?_, b3, by simpa using b4⟩
          · simp
          · rw [← b2]; simp
    rw [List.drop_length] at b2 b3 b4
    have hrest : rest = [] := List.length_eq_zero_iff.mp b4
    subst hrest
    simp only [pass, List.append_nil] at b2 b3
    subst b2 b3
    exact ⟨_, _, by rw [← hw]; simp only [q_mVar, q_mCst, q_oVal, q_oLoc, q_mOp2, q_bOf, q_bTru, q_bNot, q_bAnd, q_bOr, q_vAnd, q_vOr, q_vNot, q_mIte, q_mOr, q_aNil, q_aCons, q_aoNil, q_aoCons, q_mTup, q_nLst, q_iSeq, q_iSign, q_iR1, q_iR2, q_iEnumM, q_iRevM, q_iZipM, q_sNext, q_sSeq, q_sExpr, q_sRet, q_sRetN, q_sRetL, q_sIf, q_sSet, q_sSetN, q_sAsg, q_sFor, q_nLc, q_bYes, q_mCall, q_nCall, q_mMeth, q_mMeth0, q_mFld, q_mProp, q_nMake, q_pNone, q_pSome, q_mSl, q_mB, q_mRef, q_mMut, q_mMut0, q_mDGet, q_sPut, q_sFldP, q_sAug, q_mTx, q_mIsT, q_mInK, q_sRaise0, q_mExc, q_sTry, q_iScr, q_nDict, q_mNeg, q_mCallK, q_nCallK, Res.toS, Res.bind, Res.lift, Res.calm, resO, resL, CRes.toR, CRes.toN, CRes.toB, CRes.quiet, cellO, setE, setS, dLt, dLe, dGt, dGe, dAdd, iSub, dAddA, dEq, dNe, eqB, sEq, fInt, gNm, gTp, gsCons, gsNil, dTru, dIsN, dNotN, locAt, isLst, mutK, insC, List.getElem?_cons_zero, List.getElem?_cons_succ, List.set_cons_zero, List.set_cons_succ, List.length_cons, List.length_nil, List.length_set, Option.map_some, Option.map_none, Option.bind_some, if_true, if_false, decide_eq_true_eq, decide_true, decide_false, Nat.zero_lt_succ, Nat.reduceLT, Nat.reduceAdd, and_true, true_and, and_self, Bool.false_eq_true, List.map_cons, List.map_nil, List.cons_append, List.nil_append, List.replicate_succ, List.replicate_zero, Nat.reduceSub, List.append_nil, reduceCtorEq, reduceIte, ne_eq, not_false_eq_true, not_true_eq_false, List.tail_cons, List.head?_cons, sz_le, sz_lt, Nat.reduceLeDiff, Nat.zero_le, ok62_int, Int.reduceLE, Int.reduceNeg, Int.reduceToNat, Bool.and_self, Int.reduceLT, Int.natCast_zero, eL] <;> rfl, _, _, _, rfl, rfl⟩
  simp only [q_mVar, q_mCst, q_oVal, q_oLoc, q_mOp2, q_bOf, q_bTru, q_bNot, q_bAnd, q_bOr, q_vAnd, q_vOr, q_vNot, q_mIte, q_mOr, q_aNil, q_aCons, q_aoNil, q_aoCons, q_mTup, q_nLst, q_iSeq, q_iSign, q_iR1, q_iR2, q_iEnumM, q_iRevM, q_iZipM, q_sNext, q_sSeq, q_sExpr, q_sRet, q_sRetN, q_sRetL, q_sIf, q_sSet, q_sSetN, q_sAsg, q_sFor, q_nLc, q_bYes, q_mCall, q_nCall, q_mMeth, q_mMeth0, q_mFld, q_mProp, q_nMake, q_pNone, q_pSome, q_mSl, q_mB, q_mRef, q_mMut, q_mMut0, q_mDGet, q_sPut, q_sFldP, q_sAug, q_mTx, q_mIsT, q_mInK, q_sRaise0, q_mExc, q_sTry, q_iScr, q_nDict, q_mNeg, q_mCallK, q_nCallK, Res.toS, Res.bind, Res.lift, Res.calm, resO, resL, CRes.toR, CRes.toN, CRes.toB, CRes.quiet, cellO, setE, setS, dLt, dLe, dGt, dGe, dAdd, iSub, dAddA, dEq, dNe, eqB, sEq, fInt, gNm, gTp, gsCons, gsNil, dTru, dIsN, dNotN, locAt, isLst, mutK, insC, List.getElem?_cons_zero, List.getElem?_cons_succ, List.set_cons_zero, List.set_cons_succ, List.length_cons, List.length_nil, List.length_set, Option.map_some, Option.map_none, Option.bind_some, if_true, if_false, decide_eq_true_eq, decide_true, decide_false, Nat.zero_lt_succ, Nat.reduceLT, Nat.reduceAdd, and_true, true_and, and_self, Bool.false_eq_true, List.map_cons, List.map_nil, List.cons_append, List.nil_append, List.replicate_succ, List.replicate_zero, Nat.reduceSub, List.append_nil, reduceCtorEq, reduceIte, ne_eq, not_false_eq_true, not_true_eq_false, List.tail_cons, List.head?_cons, sz_le, sz_lt, Nat.reduceLeDiff, Nat.zero_le, ok62_int, Int.reduceLE, Int.reduceNeg, Int.reduceToNat, Bool.and_self, Int.reduceLT, Int.natCast_zero, eL] at hq
  exact hq.symm
/-! the letters in turns -/
theorem dealt_ok (fs : List (List Nat)) (cs : List Nat) (K : Nat) (ne : fs ≠ []) (hK : maxI (fs.map fun c => (c.length : Int)) = (K : Nat)) (hf : ∀ c ∈ fs, c.length ≤ 1000) (hfl : fs.length ≤ 100) (hk : K ≤ 1000) (hd : ∃ r, cs = dealt fs K ++ r) (hc : cs.length ≤ 1000) (S0 : List D) :
    F_law_dealt [.lst (fs.map strS), strS cs] S0 = .ok (.bl true) S0 := by
  generalize hq : F_law_dealt [.lst (fs.map strS), strS cs] S0 = q
  have lc2 := lc_pureT (g := gNm 4) (vs := [4]) (m := mB fLen (aoCons (oLoc 4) aoNil)) (f := strS) (h := fun r => .int (r.length : Int)) (xs := fs) (env := [.val (.lst (fs.map strS)), .val (strS cs), .val (strS []), .none, .none]) (S := S0) (by omega) fun x hx => by
    have := len_S (a := x) (by have := hf x hx; omega)
    exact ⟨_, _, rfl, by simp only [q_mVar, q_mCst, q_oVal, q_oLoc, q_mOp2, q_bOf, q_bTru, q_bNot, q_bAnd, q_bOr, q_vAnd, q_vOr, q_vNot, q_mIte, q_mOr, q_aNil, q_aCons, q_aoNil, q_aoCons, q_mTup, q_nLst, q_iSeq, q_iSign, q_iR1, q_iR2, q_iEnumM, q_iRevM, q_iZipM, q_sNext, q_sSeq, q_sExpr, q_sRet, q_sRetN, q_sRetL, q_sIf, q_sSet, q_sSetN, q_sAsg, q_sFor, q_nLc, q_bYes, q_mCall, q_nCall, q_mMeth, q_mMeth0, q_mFld, q_mProp, q_nMake, q_pNone, q_pSome, q_mSl, q_mB, q_mRef, q_mMut, q_mMut0, q_mDGet, q_sPut, q_sFldP, q_sAug, q_mTx, q_mIsT, q_mInK, q_sRaise0, q_mExc, q_sTry, q_iScr, q_nDict, q_mNeg, q_mCallK, q_nCallK, Res.toS, Res.bind, Res.lift, Res.calm, resO, resL, CRes.toR, CRes.toN, CRes.toB, CRes.quiet, cellO, setE, setS, dLt, dLe, dGt, dGe, dAdd, iSub, dAddA, dEq, dNe, eqB, sEq, fInt, gNm, gTp, gsCons, gsNil, dTru, dIsN, dNotN, locAt, isLst, mutK, insC, List.getElem?_cons_zero, List.getElem?_cons_succ, List.set_cons_zero, List.set_cons_succ, List.length_cons, List.length_nil, List.length_set, Option.map_some, Option.map_none, Option.bind_some, if_true, if_false, decide_eq_true_eq, decide_true, decide_false, Nat.zero_lt_succ, Nat.reduceLT, Nat.reduceAdd, and_true, true_and, and_self, Bool.false_eq_true, List.map_cons, List.map_nil, List.cons_append, List.nil_append, List.replicate_succ, List.replicate_zero, Nat.reduceSub, List.append_nil, reduceCtorEq, reduceIte, ne_eq, not_false_eq_true, not_true_eq_false, List.tail_cons, List.head?_cons, sz_le, sz_lt, Nat.reduceLeDiff, Nat.zero_le, ok62_int, Int.reduceLE, Int.reduceNeg, Int.reduceToNat, Bool.and_self, Int.reduceLT, Int.natCast_zero, this] <;> rfl, by simp only [q_mVar, q_mCst, q_oVal, q_oLoc, q_mOp2, q_bOf, q_bTru, q_bNot, q_bAnd, q_bOr, q_vAnd, q_vOr, q_vNot, q_mIte, q_mOr, q_aNil, q_aCons, q_aoNil, q_aoCons, q_mTup, q_nLst, q_iSeq, q_iSign, q_iR1, q_iR2, q_iEnumM, q_iRevM, q_iZipM, q_sNext, q_sSeq, q_sExpr, q_sRet, q_sRetN, q_sRetL, q_sIf, q_sSet, q_sSetN, q_sAsg, q_sFor, q_nLc, q_bYes, q_mCall, q_nCall, q_mMeth, q_mMeth0, q_mFld, q_mProp, q_nMake, q_pNone, q_pSome, q_mSl, q_mB, q_mRef, q_mMut, q_mMut0, q_mDGet, q_sPut, q_sFldP, q_sAug, q_mTx, q_mIsT, q_mInK, q_sRaise0, q_mExc, q_sTry, q_iScr, q_nDict, q_mNeg, q_mCallK, q_nCallK, Res.toS, Res.bind, Res.lift, Res.calm, resO, resL, CRes.toR, CRes.toN, CRes.toB, CRes.quiet, cellO, setE, setS, dLt, dLe, dGt, dGe, dAdd, iSub, dAddA, dEq, dNe, eqB, sEq, fInt, gNm, gTp, gsCons, gsNil, dTru, dIsN, dNotN, locAt, isLst, mutK, insC, List.getElem?_cons_zero, List.getElem?_cons_succ, List.set_cons_zero, List.set_cons_succ, List.length_cons, List.length_nil, List.length_set, Option.map_some, Option.map_none, Option.bind_some, if_true, if_false, decide_eq_true_eq, decide_true, decide_false, Nat.zero_lt_succ, Nat.reduceLT, Nat.reduceAdd, and_true, true_and, and_self, Bool.false_eq_true, List.map_cons, List.map_nil, List.cons_append, List.nil_append, List.replicate_succ, List.replicate_zero, Nat.reduceSub, List.append_nil, reduceCtorEq, reduceIte, ne_eq, not_false_eq_true, not_true_eq_false, List.tail_cons, List.head?_cons, sz_le, sz_lt, Nat.reduceLeDiff, Nat.zero_le, ok62_int, Int.reduceLE, Int.reduceNeg, Int.reduceToNat, Bool.and_self, Int.reduceLT, Int.natCast_zero, wipeE]⟩
  have mx := max_ints (xs := fs) (f := fun r => (r.length : Int)) ne
  rw [hK] at mx
  simp only [q_mVar, q_mCst, q_oVal, q_oLoc, q_mOp2, q_bOf, q_bTru, q_bNot, q_bAnd, q_bOr, q_vAnd, q_vOr, q_vNot, q_mIte, q_mOr, q_aNil, q_aCons, q_aoNil, q_aoCons, q_mTup, q_nLst, q_iSeq, q_iSign, q_iR1, q_iR2, q_iEnumM, q_iRevM, q_iZipM, q_sNext, q_sSeq, q_sExpr, q_sRet, q_sRetN, q_sRetL, q_sIf, q_sSet, q_sSetN, q_sAsg, q_sFor, q_nLc, q_bYes, q_mCall, q_nCall, q_mMeth, q_mMeth0, q_mFld, q_mProp, q_nMake, q_pNone, q_pSome, q_mSl, q_mB, q_mRef, q_mMut, q_mMut0, q_mDGet, q_sPut, q_sFldP, q_sAug, q_mTx, q_mIsT, q_mInK, q_sRaise0, q_mExc, q_sTry, q_iScr, q_nDict, q_mNeg, q_mCallK, q_nCallK, Res.toS, Res.bind, Res.lift, Res.calm, resO, resL, CRes.toR, CRes.toN, CRes.toB, CRes.quiet, cellO, setE, setS, dLt, dLe, dGt, dGe, dAdd, iSub, dAddA, dEq, dNe, eqB, sEq, fInt, gNm, gTp, gsCons, gsNil, dTru, dIsN, dNotN, locAt, isLst, mutK, insC, List.getElem?_cons_zero, List.getElem?_cons_succ, List.set_cons_zero, List.set_cons_succ, List.length_cons, List.length_nil, List.length_set, Option.map_some, Option.map_none, Option.bind_some, if_true, if_false, decide_eq_true_eq, decide_true, decide_false, Nat.zero_lt_succ, Nat.reduceLT, Nat.reduceAdd, and_true, true_and, and_self, Bool.false_eq_true, List.map_cons, List.map_nil, List.cons_append, List.nil_append, List.replicate_succ, List.replicate_zero, Nat.reduceSub, List.append_nil, reduceCtorEq, reduceIte, ne_eq, not_false_eq_true, not_true_eq_false, List.tail_cons, List.head?_cons, sz_le, sz_lt, Nat.reduceLeDiff, Nat.zero_le, ok62_int, Int.reduceLE, Int.reduceNeg, Int.reduceToNat, Bool.and_self, Int.reduceLT, Int.natCast_zero, F_law_dealt, fnOf, ms_law_dealt, env0, okVs, wipeE, List.all_cons, List.all_nil, Bool.and_true, backE, emp_S, lc2, mx, ok62_nat (show K ≤ 10000000 by omega), Int.toNat_natCast] at hq
  generalize hL : loopF _ _ _ _ _ = L at hq
  obtain ⟨r, hr⟩ := hd
  have mono : ∀ k, k ≤ K → (dealt fs k).length ≤ (dealt fs K).length := by
    intro k hk
    obtain ⟨d, rfl⟩ : ∃ d, K = k + d := ⟨K - k, by omega⟩
    clear hK hq hL mx hr hk
    induction d with
    | zero => exact Nat.le_refl _
    | succ d ih => 
      have := ih (by omega)
      show _ ≤ (dealt fs (k + d) ++ lets (k + d) fs).length
      rw [List.length_append]; omega
  have hlen : (dealt fs K).length ≤ cs.length := by rw [hr, List.length_append]; omega
  obtain ⟨env', S', eL, x3, x4, rfl, rfl⟩ : ∃ env' S', L = .next env' S' ∧ ∃ (x3 x4 : Vf.Slot), env' = [.val (.lst (fs.map strS)), .val (strS cs), .val (strS (dealt fs K)), x3, x4] ∧ S' = S0 := by
    rw [← hL]
    refine loop_range (fun k env' S' => ∃ (x3 x4 : Vf.Slot), env' = [.val (.lst (fs.map strS)), .val (strS cs), .val (strS (dealt fs k)), x3, x4] ∧ S' = S0) ⟨.none, .none, rfl, rfl⟩ fun k env S1 hk1 hI => ?_
    clear hL hq
    obtain ⟨x3, x4, rfl, rfl⟩ := hI
    have hm := mono (k + 1) (by omega)
    simp only [dealt] at hm
    rw [List.length_append] at hm
    generalize hw : turnF _ _ _ _ _ = w
    simp only [q_mVar, q_mCst, q_oVal, q_oLoc, q_mOp2, q_bOf, q_bTru, q_bNot, q_bAnd, q_bOr, q_vAnd, q_vOr, q_vNot, q_mIte, q_mOr, q_aNil, q_aCons, q_aoNil, q_aoCons, q_mTup, q_nLst, q_iSeq, q_iSign, q_iR1, q_iR2, q_iEnumM, q_iRevM, q_iZipM, q_sNext, q_sSeq, q_sExpr, q_sRet, q_sRetN, q_sRetL, q_sIf, q_sSet, q_sSetN, q_sAsg, q_sFor, q_nLc, q_bYes, q_mCall, q_nCall, q_mMeth, q_mMeth0, q_mFld, q_mProp, q_nMake, q_pNone, q_pSome, q_mSl, q_mB, q_mRef, q_mMut, q_mMut0, q_mDGet, q_sPut, q_sFldP, q_sAug, q_mTx, q_mIsT, q_mInK, q_sRaise0, q_mExc, q_sTry, q_iScr, q_nDict, q_mNeg, q_mCallK, q_nCallK, Res.toS, Res.bind, Res.lift, Res.calm, resO, resL, CRes.toR, CRes.toN, CRes.toB, CRes.quiet, cellO, setE, setS, dLt, dLe, dGt, dGe, dAdd, iSub, dAddA, dEq, dNe, eqB, sEq, fInt, gNm, gTp, gsCons, gsNil, dTru, dIsN, dNotN, locAt, isLst, mutK, insC, List.getElem?_cons_zero, List.getElem?_cons_succ, List.set_cons_zero, List.set_cons_succ, List.length_cons, List.length_nil, List.length_set, Option.map_some, Option.map_none, Option.bind_some, if_true, if_false, decide_eq_true_eq, decide_true, decide_false, Nat.zero_lt_succ, Nat.reduceLT, Nat.reduceAdd, and_true, true_and, and_self, Bool.false_eq_true, List.map_cons, List.map_nil, List.cons_append, List.nil_append, List.replicate_succ, List.replicate_zero, Nat.reduceSub, List.append_nil, reduceCtorEq, reduceIte, ne_eq, not_false_eq_true, not_true_eq_false, List.tail_cons, List.head?_cons, sz_le, sz_lt, Nat.reduceLeDiff, Nat.zero_le, ok62_int, Int.reduceLE, Int.reduceNeg, Int.reduceToNat, Bool.and_self, Int.reduceLT, Int.natCast_zero, turnF] at hw
    generalize hL : loopF _ _ _ _ _ = L at hw
    obtain ⟨env', S', eL, seen, y4, rfl, rfl, b1⟩ : ∃ env' S', L = .next env' S' ∧ ∃ (seen : List Nat) (y4 : Vf.Slot), env' = [.val (.lst (fs.map strS)), .val (strS cs), .val (strS seen), .val (.int (0 + (k : Int))), y4] ∧ S' = S1 ∧ seen ++ lets k (fs.drop fs.length) = dealt fs (k + 1) := by
      rw [← hL]
      refine loop_map (fun i env' S' => ∃ (seen : List Nat) (y4 : Vf.Slot), env' = [.val (.lst (fs.map strS)), .val (strS cs), .val (strS seen), .val (.int (0 + (k : Int))), y4] ∧ S' = S1 ∧ seen ++ lets k (fs.drop i) = dealt fs (k + 1))
        ⟨dealt fs k, x4, rfl, rfl, rfl⟩ fun i x env S2 hx hI => ?_
      obtain ⟨seen, y4, rfl, rfl, b1⟩ := hI
      rw [drop_cons hx] at b1
      simp only [lets] at b1
      have hb := congrArg List.length b1
      simp only [dealt, List.length_append] at hb
      have hx1 := hf x (List.mem_of_getElem? hx)
      have e1 := sl1_S (a := x) (k := k) (by omega)
      rw [show (k : Int) = 0 + (k : Int) by omega] at e1
      have e2 := add_S (a := seen) (b := (x.take (k + 1)).drop k) (by omega)
      exact ⟨_, _, by simp only [q_mVar, q_mCst, q_oVal, q_oLoc, q_mOp2, q_bOf, q_bTru, q_bNot, q_bAnd, q_bOr, q_vAnd, q_vOr, q_vNot, q_mIte, q_mOr, q_aNil, q_aCons, q_aoNil, q_aoCons, q_mTup, q_nLst, q_iSeq, q_iSign, q_iR1, q_iR2, q_iEnumM, q_iRevM, q_iZipM, q_sNext, q_sSeq, q_sExpr, q_sRet, q_sRetN, q_sRetL, q_sIf, q_sSet, q_sSetN, q_sAsg, q_sFor, q_nLc, q_bYes, q_mCall, q_nCall, q_mMeth, q_mMeth0, q_mFld, q_mProp, q_nMake, q_pNone, q_pSome, q_mSl, q_mB, q_mRef, q_mMut, q_mMut0, q_mDGet, q_sPut, q_sFldP, q_sAug, q_mTx, q_mIsT, q_mInK, q_sRaise0, q_mExc, q_sTry, q_iScr, q_nDict, q_mNeg, q_mCallK, q_nCallK, Res.toS, Res.bind, Res.lift, Res.calm, resO, resL, CRes.toR, CRes.toN, CRes.toB, CRes.quiet, cellO, setE, setS, dLt, dLe, dGt, dGe, dAdd, iSub, dAddA, dEq, dNe, eqB, sEq, fInt, gNm, gTp, gsCons, gsNil, dTru, dIsN, dNotN, locAt, isLst, mutK, insC, List.getElem?_cons_zero, List.getElem?_cons_succ, List.set_cons_zero, List.set_cons_succ, List.length_cons, List.length_nil, List.length_set, Option.map_some, Option.map_none, Option.bind_some, if_true, if_false, decide_eq_true_eq, decide_true, decide_false, Nat.zero_lt_succ, Nat.reduceLT, Nat.reduceAdd, and_true, true_and, and_self, Bool.false_eq_true, List.map_cons, List.map_nil, List.cons_append, List.nil_append, List.replicate_succ, List.replicate_zero, Nat.reduceSub, List.append_nil, reduceCtorEq, reduceIte, ne_eq, not_false_eq_true, not_true_eq_false, List.tail_cons, List.head?_cons, sz_le, sz_lt, Nat.reduceLeDiff, Nat.zero_le, ok62_int, Int.reduceLE, Int.reduceNeg, Int.reduceToNat, Bool.and_self, Int.reduceLT, Int.natCast_zero, turnF, e1, e2] <;> rfl, _, _, rfl, rfl, by rw [List.append_assoc]; exact b1⟩
    rw [List.drop_length] at b1
    simp only [lets, List.append_nil] at b1
    exact ⟨_, _, by rw [← hw]; simp only [q_mVar, q_mCst, q_oVal, q_oLoc, q_mOp2, q_bOf, q_bTru, q_bNot, q_bAnd, q_bOr, q_vAnd, q_vOr, q_vNot, q_mIte, q_mOr, q_aNil, q_aCons, q_aoNil, q_aoCons, q_mTup, q_nLst, q_iSeq, q_iSign, q_iR1, q_iR2, q_iEnumM, q_iRevM, q_iZipM, q_sNext, q_sSeq, q_sExpr, q_sRet, q_sRetN, q_sRetL, q_sIf, q_sSet, q_sSetN, q_sAsg, q_sFor, q_nLc, q_bYes, q_mCall, q_nCall, q_mMeth, q_mMeth0, q_mFld, q_mProp, q_nMake, q_pNone, q_pSome, q_mSl, q_mB, q_mRef, q_mMut, q_mMut0, q_mDGet, q_sPut, q_sFldP, q_sAug, q_mTx, q_mIsT, q_mInK, q_sRaise0, q_mExc, q_sTry, q_iScr, q_nDict, q_mNeg, q_mCallK, q_nCallK, Res.toS, Res.bind, Res.lift, Res.calm, resO, resL, CRes.toR, CRes.toN, CRes.toB, CRes.quiet, cellO, setE, setS, dLt, dLe, dGt, dGe, dAdd, iSub, dAddA, dEq, dNe, eqB, sEq, fInt, gNm, gTp, gsCons, gsNil, dTru, dIsN, dNotN, locAt, isLst, mutK, insC, List.getElem?_cons_zero, List.getElem?_cons_succ, List.set_cons_zero, List.set_cons_succ, List.length_cons, List.length_nil, List.length_set, Option.map_some, Option.map_none, Option.bind_some, if_true, if_false, decide_eq_true_eq, decide_true, decide_false, Nat.zero_lt_succ, Nat.reduceLT, Nat.reduceAdd, and_true, true_and, and_self, Bool.false_eq_true, List.map_cons, List.map_nil, List.cons_append, List.nil_append, List.replicate_succ, List.replicate_zero, Nat.reduceSub, List.append_nil, reduceCtorEq, reduceIte, ne_eq, not_false_eq_true, not_true_eq_false, List.tail_cons, List.head?_cons, sz_le, sz_lt, Nat.reduceLeDiff, Nat.zero_le, ok62_int, Int.reduceLE, Int.reduceNeg, Int.reduceToNat, Bool.and_self, Int.reduceLT, Int.natCast_zero, eL] <;> rfl, _, _, by rw [b1], rfl⟩
  have sw := starts_S (a := cs) (b := dealt fs K) ⟨r, hr⟩
  simp only [q_mVar, q_mCst, q_oVal, q_oLoc, q_mOp2, q_bOf, q_bTru, q_bNot, q_bAnd, q_bOr, q_vAnd, q_vOr, q_vNot, q_mIte, q_mOr, q_aNil, q_aCons, q_aoNil, q_aoCons, q_mTup, q_nLst, q_iSeq, q_iSign, q_iR1, q_iR2, q_iEnumM, q_iRevM, q_iZipM, q_sNext, q_sSeq, q_sExpr, q_sRet, q_sRetN, q_sRetL, q_sIf, q_sSet, q_sSetN, q_sAsg, q_sFor, q_nLc, q_bYes, q_mCall, q_nCall, q_mMeth, q_mMeth0, q_mFld, q_mProp, q_nMake, q_pNone, q_pSome, q_mSl, q_mB, q_mRef, q_mMut, q_mMut0, q_mDGet, q_sPut, q_sFldP, q_sAug, q_mTx, q_mIsT, q_mInK, q_sRaise0, q_mExc, q_sTry, q_iScr, q_nDict, q_mNeg, q_mCallK, q_nCallK, Res.toS, Res.bind, Res.lift, Res.calm, resO, resL, CRes.toR, CRes.toN, CRes.toB, CRes.quiet, cellO, setE, setS, dLt, dLe, dGt, dGe, dAdd, iSub, dAddA, dEq, dNe, eqB, sEq, fInt, gNm, gTp, gsCons, gsNil, dTru, dIsN, dNotN, locAt, isLst, mutK, insC, List.getElem?_cons_zero, List.getElem?_cons_succ, List.set_cons_zero, List.set_cons_succ, List.length_cons, List.length_nil, List.length_set, Option.map_some, Option.map_none, Option.bind_some, if_true, if_false, decide_eq_true_eq, decide_true, decide_false, Nat.zero_lt_succ, Nat.reduceLT, Nat.reduceAdd, and_true, true_and, and_self, Bool.false_eq_true, List.map_cons, List.map_nil, List.cons_append, List.nil_append, List.replicate_succ, List.replicate_zero, Nat.reduceSub, List.append_nil, reduceCtorEq, reduceIte, ne_eq, not_false_eq_true, not_true_eq_false, List.tail_cons, List.head?_cons, sz_le, sz_lt, Nat.reduceLeDiff, Nat.zero_le, ok62_int, Int.reduceLE, Int.reduceNeg, Int.reduceToNat, Bool.and_self, Int.reduceLT, Int.natCast_zero, eL, sw] at hq
  exact hq.symm
end K84
namespace K84
open PySem PySem.Spec PyProof.Rows L2 L2H Vf
open SX (S)
theorem run_rest_ok (rs : List Rows) (cs : List Nat) (hl : ∀ r ∈ rs, r.length ≤ 12) (hn : need rs ≤ cs.length) (hc : cs.length ≤ 1000) (hr : rs.length ≤ 100) (S0 : List D) : F_run_rest [.lst (rs.map pl), strS cs] S0 = .new (.lst ((inRow cs rs 0).1.map strS)) S0 := by
  generalize hq : F_run_rest [.lst (rs.map pl), strS cs] S0 = q
  simp only [q_mVar, q_mCst, q_oVal, q_oLoc, q_mOp2, q_bOf, q_bTru, q_bNot, q_bAnd, q_bOr, q_vAnd, q_vOr, q_vNot, q_mIte, q_mOr, q_aNil, q_aCons, q_aoNil, q_aoCons, q_mTup, q_nLst, q_iSeq, q_iSign, q_iR1, q_iR2, q_iEnumM, q_iRevM, q_iZipM, q_sNext, q_sSeq, q_sExpr, q_sRet, q_sRetN, q_sRetL, q_sIf, q_sSet, q_sSetN, q_sAsg, q_sFor, q_nLc, q_bYes, q_mCall, q_nCall, q_mMeth, q_mMeth0, q_mFld, q_mProp, q_nMake, q_pNone, q_pSome, q_mSl, q_mB, q_mRef, q_mMut, q_mMut0, q_mDGet, q_sPut, q_sFldP, q_sAug, q_mTx, q_mIsT, q_mInK, q_sRaise0, q_mExc, q_sTry, q_iScr, q_nDict, q_mNeg, q_mCallK, q_nCallK, Res.toS, Res.bind, Res.lift, Res.calm, resO, resL, CRes.toR, CRes.toN, CRes.toB, CRes.quiet, cellO, setE, setS, dLt, dLe, dGt, dGe, dAdd, iSub, dAddA, dEq, dNe, eqB, sEq, fInt, gNm, gTp, gsCons, gsNil, dTru, dIsN, dNotN, locAt, isLst, mutK, insC, List.getElem?_cons_zero, List.getElem?_cons_succ, List.set_cons_zero, List.set_cons_succ, List.length_cons, List.length_nil, List.length_set, Option.map_some, Option.map_none, Option.bind_some, if_true, if_false, decide_eq_true_eq, decide_true, decide_false, Nat.zero_lt_succ, Nat.reduceLT, Nat.reduceAdd, and_true, true_and, and_self, Bool.false_eq_true, List.map_cons, List.map_nil, List.cons_append, List.nil_append, List.replicate_succ, List.replicate_zero, Nat.reduceSub, List.append_nil, reduceCtorEq, reduceIte, ne_eq, not_false_eq_true, not_true_eq_false, List.tail_cons, List.head?_cons, sz_le, sz_lt, Nat.reduceLeDiff, Nat.zero_le, ok62_int, Int.reduceLE, Int.reduceNeg, Int.reduceToNat, Bool.and_self, Int.reduceLT, Int.natCast_zero, F_run_rest, fnOf, ms_run_rest, env0] at hq
  generalize hL : loopF _ _ _ _ _ = L at hq
  obtain ⟨env', S', eL, out, at_, x4, x5, x6, rfl, rfl, a1, a2, a3⟩ : ∃ env' S', L = .next env' S' ∧ ∃ (out : List (List Nat)) (at_ : Nat) (x4 x5 x6 : Vf.Slot), env' = [.val (.lst (rs.map pl)), .val (strS cs), .loc (.lst (out.map strS)), .val (.int at_), x4, x5, x6] ∧ S' = S0 ∧
      out ++ (inRow cs (rs.drop rs.length) at_).1 = (inRow cs rs 0).1 ∧ at_ + need (rs.drop rs.length) ≤ cs.length ∧ out.length = rs.length := by
    rw [← hL]
    refine loop_map (fun k env' S' => ∃ (out : List (List Nat)) (at_ : Nat) (x4 x5 x6 : Vf.Slot), env' = [.val (.lst (rs.map pl)), .val (strS cs), .loc (.lst (out.map strS)), .val (.int at_), x4, x5, x6] ∧ S' = S0 ∧
      out ++ (inRow cs (rs.drop k) at_).1 = (inRow cs rs 0).1 ∧ at_ + need (rs.drop k) ≤ cs.length ∧ out.length = k)
      ⟨[], 0, .none, .none, .none, rfl, rfl, by simp, by simpa using hn, rfl⟩ fun k r env S1 hx hI => ?_
    clear hL hq
    obtain ⟨out, s, x4, x5, x6, rfl, rfl, a1, a2, a3⟩ := hI
    have hk := (List.getElem?_eq_some_iff.mp hx).1
    have hr12 := hl r (List.mem_of_getElem? hx)
    have hd := drop_cons hx
    rw [hd] at a1 a2
    simp only [inRow, need] at a1 a2
    generalize hw : turnF _ _ _ _ _ = w
    simp only [q_mVar, q_mCst, q_oVal, q_oLoc, q_mOp2, q_bOf, q_bTru, q_bNot, q_bAnd, q_bOr, q_vAnd, q_vOr, q_vNot, q_mIte, q_mOr, q_aNil, q_aCons, q_aoNil, q_aoCons, q_mTup, q_nLst, q_iSeq, q_iSign, q_iR1, q_iR2, q_iEnumM, q_iRevM, q_iZipM, q_sNext, q_sSeq, q_sExpr, q_sRet, q_sRetN, q_sRetL, q_sIf, q_sSet, q_sSetN, q_sAsg, q_sFor, q_nLc, q_bYes, q_mCall, q_nCall, q_mMeth, q_mMeth0, q_mFld, q_mProp, q_nMake, q_pNone, q_pSome, q_mSl, q_mB, q_mRef, q_mMut, q_mMut0, q_mDGet, q_sPut, q_sFldP, q_sAug, q_mTx, q_mIsT, q_mInK, q_sRaise0, q_mExc, q_sTry, q_iScr, q_nDict, q_mNeg, q_mCallK, q_nCallK, Res.toS, Res.bind, Res.lift, Res.calm, resO, resL, CRes.toR, CRes.toN, CRes.toB, CRes.quiet, cellO, setE, setS, dLt, dLe, dGt, dGe, dAdd, iSub, dAddA, dEq, dNe, eqB, sEq, fInt, gNm, gTp, gsCons, gsNil, dTru, dIsN, dNotN, locAt, isLst, mutK, insC, List.getElem?_cons_zero, List.getElem?_cons_succ, List.set_cons_zero, List.set_cons_succ, List.length_cons, List.length_nil, List.length_set, Option.map_some, Option.map_none, Option.bind_some, if_true, if_false, decide_eq_true_eq, decide_true, decide_false, Nat.zero_lt_succ, Nat.reduceLT, Nat.reduceAdd, and_true, true_and, and_self, Bool.false_eq_true, List.map_cons, List.map_nil, List.cons_append, List.nil_append, List.replicate_succ, List.replicate_zero, Nat.reduceSub, List.append_nil, reduceCtorEq, reduceIte, ne_eq, not_false_eq_true, not_true_eq_false, List.tail_cons, List.head?_cons, sz_le, sz_lt, Nat.reduceLeDiff, Nat.zero_le, ok62_int, Int.reduceLE, Int.reduceNeg, Int.reduceToNat, Bool.and_self, Int.reduceLT, Int.natCast_zero, turnF, sWhile] at hw
    generalize hL : loopW _ _ _ _ _ = L at hw
    obtain ⟨env', S', eL, y6, rfl, rfl⟩ : ∃ env' S', L = .next env' S' ∧ ∃ y6, env' = [.val (.lst (rs.map pl)), .val (strS cs), .loc (.lst (out.map strS)), .val (.int (oneN r cs s).2), .val (pl r), .val (.int s), y6] ∧ S' = S1 := by
      rw [← hL]
      refine while_do (fun n env' S' => ∃ (j : Nat) (p : List Nat × Nat) (a b : Int), p = iter (one r cs) j ([], s) ∧ a = gs p.1 ∧ a + b = p.1.length ∧ p.1.length = j ∧ n + j = r.length ∧ env' = [.val (.lst (rs.map pl)), .val (strS cs), .loc (.lst (out.map strS)), .val (.int p.2), .val (pl r), .val (.int s), .val (.tup [.int a, .int b])] ∧ S' = S1)
        _ (fun n env S2 hI => ?_) 100 r.length _ _ (by omega) ⟨0, ([], s), 0, 0, rfl, rfl, rfl, rfl, rfl, rfl, rfl⟩
      obtain ⟨j, p, a, b, e1, e2, e3, e4, e5, rfl, rfl⟩ := hI
      have o := one_iter r cs s j
      rw [← e1] at o
      have o3 := o.at_; have o5 := o.lim
      have ct := contains_ok r a b (by omega) S2
      rw [e3, Int.toNat_natCast, e2] at ct
      have eg : decide (gs p.1 ∈ rowAt r p.1.length) = going r p.1 := rfl
      rw [eg, ← e2] at ct
      refine ⟨going r p.1, _, _, by simp only [q_mVar, q_mCst, q_oVal, q_oLoc, q_mOp2, q_bOf, q_bTru, q_bNot, q_bAnd, q_bOr, q_vAnd, q_vOr, q_vNot, q_mIte, q_mOr, q_aNil, q_aCons, q_aoNil, q_aoCons, q_mTup, q_nLst, q_iSeq, q_iSign, q_iR1, q_iR2, q_iEnumM, q_iRevM, q_iZipM, q_sNext, q_sSeq, q_sExpr, q_sRet, q_sRetN, q_sRetL, q_sIf, q_sSet, q_sSetN, q_sAsg, q_sFor, q_nLc, q_bYes, q_mCall, q_nCall, q_mMeth, q_mMeth0, q_mFld, q_mProp, q_nMake, q_pNone, q_pSome, q_mSl, q_mB, q_mRef, q_mMut, q_mMut0, q_mDGet, q_sPut, q_sFldP, q_sAug, q_mTx, q_mIsT, q_mInK, q_sRaise0, q_mExc, q_sTry, q_iScr, q_nDict, q_mNeg, q_mCallK, q_nCallK, Res.toS, Res.bind, Res.lift, Res.calm, resO, resL, CRes.toR, CRes.toN, CRes.toB, CRes.quiet, cellO, setE, setS, dLt, dLe, dGt, dGe, dAdd, iSub, dAddA, dEq, dNe, eqB, sEq, fInt, gNm, gTp, gsCons, gsNil, dTru, dIsN, dNotN, locAt, isLst, mutK, insC, List.getElem?_cons_zero, List.getElem?_cons_succ, List.set_cons_zero, List.set_cons_succ, List.length_cons, List.length_nil, List.length_set, Option.map_some, Option.map_none, Option.bind_some, if_true, if_false, decide_eq_true_eq, decide_true, decide_false, Nat.zero_lt_succ, Nat.reduceLT, Nat.reduceAdd, and_true, true_and, and_self, Bool.false_eq_true, List.map_cons, List.map_nil, List.cons_append, List.nil_append, List.replicate_succ, List.replicate_zero, Nat.reduceSub, List.append_nil, reduceCtorEq, reduceIte, ne_eq, not_false_eq_true, not_true_eq_false, List.tail_cons, List.head?_cons, sz_le, sz_lt, Nat.reduceLeDiff, Nat.zero_le, ok62_int, Int.reduceLE, Int.reduceNeg, Int.reduceToNat, Bool.and_self, Int.reduceLT, Int.natCast_zero, ct, id] <;> rfl, fun g => ?_, fun g => ?_⟩
      · have hs := one_stop (cs := cs) g
        have : oneN r cs s = p := by
          have k := iter_stop (f := one r cs) (n := j) (a := ([], s)) (by rw [← e1]; exact hs) n
          show iter (one r cs) r.length ([], s) = p
          rw [← e5, Nat.add_comm, k, e1]
        exact ⟨_, by rw [this], rfl⟩
      · have hgl := going_lt g
        have hone : iter (one r cs) (j + 1) ([], s) = (p.1 ++ [cs.getD p.2 0], p.2 + 1) := by
          rw [iter_succ, ← e1]; unfold one; rw [if_pos g]
        have e6 := ix_S (cs := cs) (k := (p.2 : Int)) (c := cs.getD p.2 0) (by omega) (by rw [Int.toNat_natCast, List.getD_eq_getElem?_getD, List.getElem?_eq_getElem (by omega)]; rfl) (by omega)
        have e7 := stepped_ok a b (cs.getD p.2 0) S2
        refine ⟨_, _, by simp only [q_mVar, q_mCst, q_oVal, q_oLoc, q_mOp2, q_bOf, q_bTru, q_bNot, q_bAnd, q_bOr, q_vAnd, q_vOr, q_vNot, q_mIte, q_mOr, q_aNil, q_aCons, q_aoNil, q_aoCons, q_mTup, q_nLst, q_iSeq, q_iSign, q_iR1, q_iR2, q_iEnumM, q_iRevM, q_iZipM, q_sNext, q_sSeq, q_sExpr, q_sRet, q_sRetN, q_sRetL, q_sIf, q_sSet, q_sSetN, q_sAsg, q_sFor, q_nLc, q_bYes, q_mCall, q_nCall, q_mMeth, q_mMeth0, q_mFld, q_mProp, q_nMake, q_pNone, q_pSome, q_mSl, q_mB, q_mRef, q_mMut, q_mMut0, q_mDGet, q_sPut, q_sFldP, q_sAug, q_mTx, q_mIsT, q_mInK, q_sRaise0, q_mExc, q_sTry, q_iScr, q_nDict, q_mNeg, q_mCallK, q_nCallK, Res.toS, Res.bind, Res.lift, Res.calm, resO, resL, CRes.toR, CRes.toN, CRes.toB, CRes.quiet, cellO, setE, setS, dLt, dLe, dGt, dGe, dAdd, iSub, dAddA, dEq, dNe, eqB, sEq, fInt, gNm, gTp, gsCons, gsNil, dTru, dIsN, dNotN, locAt, isLst, mutK, insC, List.getElem?_cons_zero, List.getElem?_cons_succ, List.set_cons_zero, List.set_cons_succ, List.length_cons, List.length_nil, List.length_set, Option.map_some, Option.map_none, Option.bind_some, if_true, if_false, decide_eq_true_eq, decide_true, decide_false, Nat.zero_lt_succ, Nat.reduceLT, Nat.reduceAdd, and_true, true_and, and_self, Bool.false_eq_true, List.map_cons, List.map_nil, List.cons_append, List.nil_append, List.replicate_succ, List.replicate_zero, Nat.reduceSub, List.append_nil, reduceCtorEq, reduceIte, ne_eq, not_false_eq_true, not_true_eq_false, List.tail_cons, List.head?_cons, sz_le, sz_lt, Nat.reduceLeDiff, Nat.zero_le, ok62_int, Int.reduceLE, Int.reduceNeg, Int.reduceToNat, Bool.and_self, Int.reduceLT, Int.natCast_zero, e6, e7] <;> rfl, n - 1, by omega, j + 1, _, _, _, hone.symm, ?_, ?_, by simp; omega, by omega, rfl, rfl⟩
        · dsimp only; rw [gs_snoc, e2]
        · dsimp only; rw [List.length_append, List.length_singleton]; omega
    have oo := oneN_I r cs s
    have o3 := oo.at_; have o5 := oo.lim
    have hseg := oo.seg (by omega)
    have sl := sl_S (a := cs) (i := s) (j := (oneN r cs s).2) (by omega) (by omega)
    have e8 : (cs.drop s).take (min (oneN r cs s).2 cs.length - s) = (oneN r cs s).1 := by
      have := congrArg (List.drop s) hseg
      rw [List.drop_left' (by rw [List.length_take]; omega), List.drop_take] at this
      rw [this, Nat.min_eq_left (by omega)]
    rw [e8] at sl
    have ap := app_eq (xs := out.map strS) (y := strS (oneN r cs s).1) (by rw [List.length_map]; omega)
    refine ⟨_, _, by rw [← hw]; simp only [q_mVar, q_mCst, q_oVal, q_oLoc, q_mOp2, q_bOf, q_bTru, q_bNot, q_bAnd, q_bOr, q_vAnd, q_vOr, q_vNot, q_mIte, q_mOr, q_aNil, q_aCons, q_aoNil, q_aoCons, q_mTup, q_nLst, q_iSeq, q_iSign, q_iR1, q_iR2, q_iEnumM, q_iRevM, q_iZipM, q_sNext, q_sSeq, q_sExpr, q_sRet, q_sRetN, q_sRetL, q_sIf, q_sSet, q_sSetN, q_sAsg, q_sFor, q_nLc, q_bYes, q_mCall, q_nCall, q_mMeth, q_mMeth0, q_mFld, q_mProp, q_nMake, q_pNone, q_pSome, q_mSl, q_mB, q_mRef, q_mMut, q_mMut0, q_mDGet, q_sPut, q_sFldP, q_sAug, q_mTx, q_mIsT, q_mInK, q_sRaise0, q_mExc, q_sTry, q_iScr, q_nDict, q_mNeg, q_mCallK, q_nCallK, Res.toS, Res.bind, Res.lift, Res.calm, resO, resL, CRes.toR, CRes.toN, CRes.toB, CRes.quiet, cellO, setE, setS, dLt, dLe, dGt, dGe, dAdd, iSub, dAddA, dEq, dNe, eqB, sEq, fInt, gNm, gTp, gsCons, gsNil, dTru, dIsN, dNotN, locAt, isLst, mutK, insC, List.getElem?_cons_zero, List.getElem?_cons_succ, List.set_cons_zero, List.set_cons_succ, List.length_cons, List.length_nil, List.length_set, Option.map_some, Option.map_none, Option.bind_some, if_true, if_false, decide_eq_true_eq, decide_true, decide_false, Nat.zero_lt_succ, Nat.reduceLT, Nat.reduceAdd, and_true, true_and, and_self, Bool.false_eq_true, List.map_cons, List.map_nil, List.cons_append, List.nil_append, List.replicate_succ, List.replicate_zero, Nat.reduceSub, List.append_nil, reduceCtorEq, reduceIte, ne_eq, not_false_eq_true, not_true_eq_false, List.tail_cons, List.head?_cons, sz_le, sz_lt, Nat.reduceLeDiff, Nat.zero_le, ok62_int, Int.reduceLE, Int.reduceNeg, Int.reduceToNat, Bool.and_self, Int.reduceLT, Int.natCast_zero, eL, sl, ap] <;> rfl, out ++ [(oneN r cs s).1], (oneN r cs s).2, _, _, _, by rw [List.map_append]; rfl, rfl, ?_, by omega, by simp [a3]⟩
    rw [← a1]; simp
  rw [List.drop_length] at a1
  simp only [q_mVar, q_mCst, q_oVal, q_oLoc, q_mOp2, q_bOf, q_bTru, q_bNot, q_bAnd, q_bOr, q_vAnd, q_vOr, q_vNot, q_mIte, q_mOr, q_aNil, q_aCons, q_aoNil, q_aoCons, q_mTup, q_nLst, q_iSeq, q_iSign, q_iR1, q_iR2, q_iEnumM, q_iRevM, q_iZipM, q_sNext, q_sSeq, q_sExpr, q_sRet, q_sRetN, q_sRetL, q_sIf, q_sSet, q_sSetN, q_sAsg, q_sFor, q_nLc, q_bYes, q_mCall, q_nCall, q_mMeth, q_mMeth0, q_mFld, q_mProp, q_nMake, q_pNone, q_pSome, q_mSl, q_mB, q_mRef, q_mMut, q_mMut0, q_mDGet, q_sPut, q_sFldP, q_sAug, q_mTx, q_mIsT, q_mInK, q_sRaise0, q_mExc, q_sTry, q_iScr, q_nDict, q_mNeg, q_mCallK, q_nCallK, Res.toS, Res.bind, Res.lift, Res.calm, resO, resL, CRes.toR, CRes.toN, CRes.toB, CRes.quiet, cellO, setE, setS, dLt, dLe, dGt, dGe, dAdd, iSub, dAddA, dEq, dNe, eqB, sEq, fInt, gNm, gTp, gsCons, gsNil, dTru, dIsN, dNotN, locAt, isLst, mutK, insC, List.getElem?_cons_zero, List.getElem?_cons_succ, List.set_cons_zero, List.set_cons_succ, List.length_cons, List.length_nil, List.length_set, Option.map_some, Option.map_none, Option.bind_some, if_true, if_false, decide_eq_true_eq, decide_true, decide_false, Nat.zero_lt_succ, Nat.reduceLT, Nat.reduceAdd, and_true, true_and, and_self, Bool.false_eq_true, List.map_cons, List.map_nil, List.cons_append, List.nil_append, List.replicate_succ, List.replicate_zero, Nat.reduceSub, List.append_nil, reduceCtorEq, reduceIte, ne_eq, not_false_eq_true, not_true_eq_false, List.tail_cons, List.head?_cons, sz_le, sz_lt, Nat.reduceLeDiff, Nat.zero_le, ok62_int, Int.reduceLE, Int.reduceNeg, Int.reduceToNat, Bool.and_self, Int.reduceLT, Int.natCast_zero, eL] at hq
  subst hq
  simp only [inRow, List.append_nil] at a1
  rw [a1]
/-- the places of courses -/
def plc (co : List Nat) : D := .tup [.int (gs co), .int (co.length - gs co)]
theorem rounds_still {cs : List Nat} {rs : List Rows} {j : Nat} (h : moves rs (rounds cs rs j).1 = false) : ∀ d, rounds cs rs (j + d) = rounds cs rs j
  | 0 => rfl
  | d + 1 => by
    show pass2 cs rs (rounds cs rs (j + d)) = _
    rw [rounds_still h d]
    unfold pass2
    rw [pass_still cs rs _ _ h]
theorem len_total : ∀ (l : List (List Nat)) (c : List Nat), c ∈ l → c.length ≤ total l := by
  intro l
  induction l with
  | nil => intro c h; cases h
  | cons x l ih =>
    intro c h
    simp only [total]
    rcases List.mem_cons.mp h with rfl | h
    · omega
    · have := ih c h; omega
theorem run_turns_ok (rs : List Rows) (cs : List Nat) (hl : ∀ r ∈ rs, r.length ≤ 12) (ne : rs ≠ []) (hn : need rs ≤ cs.length) (hc : cs.length ≤ 1000) (hr : rs.length ≤ 100) (S0 : List D) :
    F_run_turns [.lst (rs.map pl), strS cs] S0 = .new (.lst ((rounds cs rs (maxLen rs)).1.map strS)) S0 := by
  generalize hq : F_run_turns [.lst (rs.map pl), strS cs] S0 = q
  have lc1 := lc_pureT (g := gNm 6) (vs := [6]) (m := mTup (aCons (mCst (.int 0)) (aCons (mCst (.int 0)) aNil))) (f := pl) (h := fun _ => plc []) (xs := rs) (env := [.val (.lst (rs.map pl)), .val (strS cs), .none, .none, .none, .none, .none, .none, .none]) (S := S0) (by omega) fun x hx => ⟨_, _, rfl, by simp only [q_mVar, q_mCst, q_oVal, q_oLoc, q_mOp2, q_bOf, q_bTru, q_bNot, q_bAnd, q_bOr, q_vAnd, q_vOr, q_vNot, q_mIte, q_mOr, q_aNil, q_aCons, q_aoNil, q_aoCons, q_mTup, q_nLst, q_iSeq, q_iSign, q_iR1, q_iR2, q_iEnumM, q_iRevM, q_iZipM, q_sNext, q_sSeq, q_sExpr, q_sRet, q_sRetN, q_sRetL, q_sIf, q_sSet, q_sSetN, q_sAsg, q_sFor, q_nLc, q_bYes, q_mCall, q_nCall, q_mMeth, q_mMeth0, q_mFld, q_mProp, q_nMake, q_pNone, q_pSome, q_mSl, q_mB, q_mRef, q_mMut, q_mMut0, q_mDGet, q_sPut, q_sFldP, q_sAug, q_mTx, q_mIsT, q_mInK, q_sRaise0, q_mExc, q_sTry, q_iScr, q_nDict, q_mNeg, q_mCallK, q_nCallK, Res.toS, Res.bind, Res.lift, Res.calm, resO, resL, CRes.toR, CRes.toN, CRes.toB, CRes.quiet, cellO, setE, setS, dLt, dLe, dGt, dGe, dAdd, iSub, dAddA, dEq, dNe, eqB, sEq, fInt, gNm, gTp, gsCons, gsNil, dTru, dIsN, dNotN, locAt, isLst, mutK, insC, List.getElem?_cons_zero, List.getElem?_cons_succ, List.set_cons_zero, List.set_cons_succ, List.length_cons, List.length_nil, List.length_set, Option.map_some, Option.map_none, Option.bind_some, if_true, if_false, decide_eq_true_eq, decide_true, decide_false, Nat.zero_lt_succ, Nat.reduceLT, Nat.reduceAdd, and_true, true_and, and_self, Bool.false_eq_true, List.map_cons, List.map_nil, List.cons_append, List.nil_append, List.replicate_succ, List.replicate_zero, Nat.reduceSub, List.append_nil, reduceCtorEq, reduceIte, ne_eq, not_false_eq_true, not_true_eq_false, List.tail_cons, List.head?_cons, sz_le, sz_lt, Nat.reduceLeDiff, Nat.zero_le, ok62_int, Int.reduceLE, Int.reduceNeg, Int.reduceToNat, Bool.and_self, Int.reduceLT, Int.natCast_zero] <;> rfl, by simp only [q_mVar, q_mCst, q_oVal, q_oLoc, q_mOp2, q_bOf, q_bTru, q_bNot, q_bAnd, q_bOr, q_vAnd, q_vOr, q_vNot, q_mIte, q_mOr, q_aNil, q_aCons, q_aoNil, q_aoCons, q_mTup, q_nLst, q_iSeq, q_iSign, q_iR1, q_iR2, q_iEnumM, q_iRevM, q_iZipM, q_sNext, q_sSeq, q_sExpr, q_sRet, q_sRetN, q_sRetL, q_sIf, q_sSet, q_sSetN, q_sAsg, q_sFor, q_nLc, q_bYes, q_mCall, q_nCall, q_mMeth, q_mMeth0, q_mFld, q_mProp, q_nMake, q_pNone, q_pSome, q_mSl, q_mB, q_mRef, q_mMut, q_mMut0, q_mDGet, q_sPut, q_sFldP, q_sAug, q_mTx, q_mIsT, q_mInK, q_sRaise0, q_mExc, q_sTry, q_iScr, q_nDict, q_mNeg, q_mCallK, q_nCallK, Res.toS, Res.bind, Res.lift, Res.calm, resO, resL, CRes.toR, CRes.toN, CRes.toB, CRes.quiet, cellO, setE, setS, dLt, dLe, dGt, dGe, dAdd, iSub, dAddA, dEq, dNe, eqB, sEq, fInt, gNm, gTp, gsCons, gsNil, dTru, dIsN, dNotN, locAt, isLst, mutK, insC, List.getElem?_cons_zero, List.getElem?_cons_succ, List.set_cons_zero, List.set_cons_succ, List.length_cons, List.length_nil, List.length_set, Option.map_some, Option.map_none, Option.bind_some, if_true, if_false, decide_eq_true_eq, decide_true, decide_false, Nat.zero_lt_succ, Nat.reduceLT, Nat.reduceAdd, and_true, true_and, and_self, Bool.false_eq_true, List.map_cons, List.map_nil, List.cons_append, List.nil_append, List.replicate_succ, List.replicate_zero, Nat.reduceSub, List.append_nil, reduceCtorEq, reduceIte, ne_eq, not_false_eq_true, not_true_eq_false, List.tail_cons, List.head?_cons, sz_le, sz_lt, Nat.reduceLeDiff, Nat.zero_le, ok62_int, Int.reduceLE, Int.reduceNeg, Int.reduceToNat, Bool.and_self, Int.reduceLT, Int.natCast_zero, wipeE]⟩
  have lc2 := lc_pureT (g := gNm 6) (vs := [6]) (m := mCst (.str "")) (f := pl) (h := fun _ => strS []) (xs := rs) (env := [.val (.lst (rs.map pl)), .val (strS cs), .loc (.lst (rs.map fun _ => plc [])), .none, .none, .none, .none, .none, .none]) (S := S0) (by omega) fun x hx => ⟨_, _, rfl, by simp only [q_mVar, q_mCst, q_oVal, q_oLoc, q_mOp2, q_bOf, q_bTru, q_bNot, q_bAnd, q_bOr, q_vAnd, q_vOr, q_vNot, q_mIte, q_mOr, q_aNil, q_aCons, q_aoNil, q_aoCons, q_mTup, q_nLst, q_iSeq, q_iSign, q_iR1, q_iR2, q_iEnumM, q_iRevM, q_iZipM, q_sNext, q_sSeq, q_sExpr, q_sRet, q_sRetN, q_sRetL, q_sIf, q_sSet, q_sSetN, q_sAsg, q_sFor, q_nLc, q_bYes, q_mCall, q_nCall, q_mMeth, q_mMeth0, q_mFld, q_mProp, q_nMake, q_pNone, q_pSome, q_mSl, q_mB, q_mRef, q_mMut, q_mMut0, q_mDGet, q_sPut, q_sFldP, q_sAug, q_mTx, q_mIsT, q_mInK, q_sRaise0, q_mExc, q_sTry, q_iScr, q_nDict, q_mNeg, q_mCallK, q_nCallK, Res.toS, Res.bind, Res.lift, Res.calm, resO, resL, CRes.toR, CRes.toN, CRes.toB, CRes.quiet, cellO, setE, setS, dLt, dLe, dGt, dGe, dAdd, iSub, dAddA, dEq, dNe, eqB, sEq, fInt, gNm, gTp, gsCons, gsNil, dTru, dIsN, dNotN, locAt, isLst, mutK, insC, List.getElem?_cons_zero, List.getElem?_cons_succ, List.set_cons_zero, List.set_cons_succ, List.length_cons, List.length_nil, List.length_set, Option.map_some, Option.map_none, Option.bind_some, if_true, if_false, decide_eq_true_eq, decide_true, decide_false, Nat.zero_lt_succ, Nat.reduceLT, Nat.reduceAdd, and_true, true_and, and_self, Bool.false_eq_true, List.map_cons, List.map_nil, List.cons_append, List.nil_append, List.replicate_succ, List.replicate_zero, Nat.reduceSub, List.append_nil, reduceCtorEq, reduceIte, ne_eq, not_false_eq_true, not_true_eq_false, List.tail_cons, List.head?_cons, sz_le, sz_lt, Nat.reduceLeDiff, Nat.zero_le, ok62_int, Int.reduceLE, Int.reduceNeg, Int.reduceToNat, Bool.and_self, Int.reduceLT, Int.natCast_zero, emp_S] <;> rfl, by simp only [q_mVar, q_mCst, q_oVal, q_oLoc, q_mOp2, q_bOf, q_bTru, q_bNot, q_bAnd, q_bOr, q_vAnd, q_vOr, q_vNot, q_mIte, q_mOr, q_aNil, q_aCons, q_aoNil, q_aoCons, q_mTup, q_nLst, q_iSeq, q_iSign, q_iR1, q_iR2, q_iEnumM, q_iRevM, q_iZipM, q_sNext, q_sSeq, q_sExpr, q_sRet, q_sRetN, q_sRetL, q_sIf, q_sSet, q_sSetN, q_sAsg, q_sFor, q_nLc, q_bYes, q_mCall, q_nCall, q_mMeth, q_mMeth0, q_mFld, q_mProp, q_nMake, q_pNone, q_pSome, q_mSl, q_mB, q_mRef, q_mMut, q_mMut0, q_mDGet, q_sPut, q_sFldP, q_sAug, q_mTx, q_mIsT, q_mInK, q_sRaise0, q_mExc, q_sTry, q_iScr, q_nDict, q_mNeg, q_mCallK, q_nCallK, Res.toS, Res.bind, Res.lift, Res.calm, resO, resL, CRes.toR, CRes.toN, CRes.toB, CRes.quiet, cellO, setE, setS, dLt, dLe, dGt, dGe, dAdd, iSub, dAddA, dEq, dNe, eqB, sEq, fInt, gNm, gTp, gsCons, gsNil, dTru, dIsN, dNotN, locAt, isLst, mutK, insC, List.getElem?_cons_zero, List.getElem?_cons_succ, List.set_cons_zero, List.set_cons_succ, List.length_cons, List.length_nil, List.length_set, Option.map_some, Option.map_none, Option.bind_some, if_true, if_false, decide_eq_true_eq, decide_true, decide_false, Nat.zero_lt_succ, Nat.reduceLT, Nat.reduceAdd, and_true, true_and, and_self, Bool.false_eq_true, List.map_cons, List.map_nil, List.cons_append, List.nil_append, List.replicate_succ, List.replicate_zero, Nat.reduceSub, List.append_nil, reduceCtorEq, reduceIte, ne_eq, not_false_eq_true, not_true_eq_false, List.tail_cons, List.head?_cons, sz_le, sz_lt, Nat.reduceLeDiff, Nat.zero_le, ok62_int, Int.reduceLE, Int.reduceNeg, Int.reduceToNat, Bool.and_self, Int.reduceLT, Int.natCast_zero, wipeE]⟩
  have m12 := maxLen_le hl ne
  have hst : (rs.map fun _ => strS []) = (rounds cs rs 0).1.map strS := by show _ = (rs.map fun _ => []).map strS; rw [List.map_map]; rfl
  have hsp : (rs.map fun _ => plc []) = (rounds cs rs 0).1.map plc := by show _ = (rs.map fun _ => []).map plc; rw [List.map_map]; rfl
  simp only [q_mVar, q_mCst, q_oVal, q_oLoc, q_mOp2, q_bOf, q_bTru, q_bNot, q_bAnd, q_bOr, q_vAnd, q_vOr, q_vNot, q_mIte, q_mOr, q_aNil, q_aCons, q_aoNil, q_aoCons, q_mTup, q_nLst, q_iSeq, q_iSign, q_iR1, q_iR2, q_iEnumM, q_iRevM, q_iZipM, q_sNext, q_sSeq, q_sExpr, q_sRet, q_sRetN, q_sRetL, q_sIf, q_sSet, q_sSetN, q_sAsg, q_sFor, q_nLc, q_bYes, q_mCall, q_nCall, q_mMeth, q_mMeth0, q_mFld, q_mProp, q_nMake, q_pNone, q_pSome, q_mSl, q_mB, q_mRef, q_mMut, q_mMut0, q_mDGet, q_sPut, q_sFldP, q_sAug, q_mTx, q_mIsT, q_mInK, q_sRaise0, q_mExc, q_sTry, q_iScr, q_nDict, q_mNeg, q_mCallK, q_nCallK, Res.toS, Res.bind, Res.lift, Res.calm, resO, resL, CRes.toR, CRes.toN, CRes.toB, CRes.quiet, cellO, setE, setS, dLt, dLe, dGt, dGe, dAdd, iSub, dAddA, dEq, dNe, eqB, sEq, fInt, gNm, gTp, gsCons, gsNil, dTru, dIsN, dNotN, locAt, isLst, mutK, insC, List.getElem?_cons_zero, List.getElem?_cons_succ, List.set_cons_zero, List.set_cons_succ, List.length_cons, List.length_nil, List.length_set, Option.map_some, Option.map_none, Option.bind_some, if_true, if_false, decide_eq_true_eq, decide_true, decide_false, Nat.zero_lt_succ, Nat.reduceLT, Nat.reduceAdd, and_true, true_and, and_self, Bool.false_eq_true, List.map_cons, List.map_nil, List.cons_append, List.nil_append, List.replicate_succ, List.replicate_zero, Nat.reduceSub, List.append_nil, reduceCtorEq, reduceIte, ne_eq, not_false_eq_true, not_true_eq_false, List.tail_cons, List.head?_cons, sz_le, sz_lt, Nat.reduceLeDiff, Nat.zero_le, ok62_int, Int.reduceLE, Int.reduceNeg, Int.reduceToNat, Bool.and_self, Int.reduceLT, Int.natCast_zero, F_run_turns, fnOf, ms_run_turns, env0, okVs, wipeE, List.all_cons, List.all_nil, Bool.and_true, backE, lc1, lc2, sWhile] at hq
  generalize hL : loopW _ _ _ _ _ = L at hq
  obtain ⟨env', S', eL, x2, x4, x5, x6, x7, x8, rfl, rfl⟩ : ∃ env' S', L = .next env' S' ∧ ∃ (x2 x4 x5 x6 x7 x8 : Vf.Slot), env' = [.val (.lst (rs.map pl)), .val (strS cs), x2, .loc (.lst ((rounds cs rs (maxLen rs)).1.map strS)), x4, x5, x6, x7, x8] ∧ S' = S0 := by
    rw [← hL]
    refine while_do (fun n env' S' => ∃ (j : Nat) (g : Bool) (x6 x7 x8 : Vf.Slot), n + j = maxLen rs + 1 ∧ (g = true → j ≤ maxLen rs) ∧ (g = false → moves rs (rounds cs rs j).1 = false) ∧ env' = [.val (.lst (rs.map pl)), .val (strS cs), .loc (.lst ((rounds cs rs j).1.map plc)), .loc (.lst ((rounds cs rs j).1.map strS)), .val (.int (rounds cs rs j).2), .val (.bl g), x6, x7, x8] ∧ S' = S0)
      _ (fun n env S1 hI => ?_) 100 (maxLen rs + 1) _ _ (by omega) ⟨0, true, .none, .none, .none, rfl, fun _ => Nat.zero_le _, fun z => (by cases z), by rw [hst, hsp]; rfl, rfl⟩
    clear hL hq
    obtain ⟨j, g, x6, x7, x8, hj, hg1, hg2, rfl, rfl⟩ := hI
    refine ⟨g, _, _, by simp only [q_mVar, q_mCst, q_oVal, q_oLoc, q_mOp2, q_bOf, q_bTru, q_bNot, q_bAnd, q_bOr, q_vAnd, q_vOr, q_vNot, q_mIte, q_mOr, q_aNil, q_aCons, q_aoNil, q_aoCons, q_mTup, q_nLst, q_iSeq, q_iSign, q_iR1, q_iR2, q_iEnumM, q_iRevM, q_iZipM, q_sNext, q_sSeq, q_sExpr, q_sRet, q_sRetN, q_sRetL, q_sIf, q_sSet, q_sSetN, q_sAsg, q_sFor, q_nLc, q_bYes, q_mCall, q_nCall, q_mMeth, q_mMeth0, q_mFld, q_mProp, q_nMake, q_pNone, q_pSome, q_mSl, q_mB, q_mRef, q_mMut, q_mMut0, q_mDGet, q_sPut, q_sFldP, q_sAug, q_mTx, q_mIsT, q_mInK, q_sRaise0, q_mExc, q_sTry, q_iScr, q_nDict, q_mNeg, q_mCallK, q_nCallK, Res.toS, Res.bind, Res.lift, Res.calm, resO, resL, CRes.toR, CRes.toN, CRes.toB, CRes.quiet, cellO, setE, setS, dLt, dLe, dGt, dGe, dAdd, iSub, dAddA, dEq, dNe, eqB, sEq, fInt, gNm, gTp, gsCons, gsNil, dTru, dIsN, dNotN, locAt, isLst, mutK, insC, List.getElem?_cons_zero, List.getElem?_cons_succ, List.set_cons_zero, List.set_cons_succ, List.length_cons, List.length_nil, List.length_set, Option.map_some, Option.map_none, Option.bind_some, if_true, if_false, decide_eq_true_eq, decide_true, decide_false, Nat.zero_lt_succ, Nat.reduceLT, Nat.reduceAdd, and_true, true_and, and_self, Bool.false_eq_true, List.map_cons, List.map_nil, List.cons_append, List.nil_append, List.replicate_succ, List.replicate_zero, Nat.reduceSub, List.append_nil, reduceCtorEq, reduceIte, ne_eq, not_false_eq_true, not_true_eq_false, List.tail_cons, List.head?_cons, sz_le, sz_lt, Nat.reduceLeDiff, Nat.zero_le, ok62_int, Int.reduceLE, Int.reduceNeg, Int.reduceToNat, Bool.and_self, Int.reduceLT, Int.natCast_zero] <;> rfl, fun hg => ?_, fun hg => ?_⟩
    · have hm := hg2 hg
      have : rounds cs rs (maxLen rs) = rounds cs rs j := by
        by_cases c : j ≤ maxLen rs
        · have := rounds_still hm (maxLen rs - j)
          rw [show j + (maxLen rs - j) = maxLen rs by omega] at this
          exact this
        · have hm2 := turnI_end (rounds_I cs rs (maxLen rs)).1 fun r h => maxLen_ge h
          have := rounds_still hm2 (j - maxLen rs)
          rw [show maxLen rs + (j - maxLen rs) = j by omega] at this
          exact this.symm
      exact ⟨_, _, _, _, _, _, by rw [this], rfl⟩
    · subst hg
      have hj1 := hg1 rfl
      have I1 := rounds_I cs rs j
      have I2 := rounds_I cs rs (j + 1)
      have t2 := turnI_total I2.1
      have hmv : moves rs (rounds cs rs j).1 = true → j + 1 ≤ maxLen rs := by
        intro hm
        apply Classical.byContradiction
        intro z
        have := turnI_end I1.1 fun r h => by have := maxLen_ge h; omega
        rw [hm] at this; cases this
      have hmv2 : moves rs (rounds cs rs j).1 = false → moves rs (rounds cs rs (j + 1)).1 = false := by
        intro hm
        rw [rounds_still hm 1]; exact hm
      refine (?_ : ∃ env2 S2, _ ∧ (∃ m, m < n ∧ ∃ (j : Nat) (g : Bool) (x6 x7 x8 : Vf.Slot), m + j = maxLen rs + 1 ∧ (g = true → j ≤ maxLen rs) ∧ (g = false → moves rs (rounds cs rs j).1 = false) ∧ env2 = [.val (.lst (rs.map pl)), .val (strS cs), .loc (.lst ((rounds cs rs j).1.map plc)), .loc (.lst ((rounds cs rs j).1.map strS)), .val (.int (rounds cs rs j).2), .val (.bl g), x6, x7, x8] ∧ S2 = S1))
      suffices hz : ∃ y7 y8, _ = SRes.next [.val (.lst (rs.map pl)), .val (strS cs), .loc (.lst ((rounds cs rs (j + 1)).1.map plc)), .loc (.lst ((rounds cs rs (j + 1)).1.map strS)), .val (.int (rounds cs rs (j + 1)).2), .val (.bl (moves rs (rounds cs rs j).1)), x6, y7, y8] S1 by
        obtain ⟨y7, y8, hz⟩ := hz
        exact ⟨_, _, hz, n - 1, by omega, j + 1, moves rs (rounds cs rs j).1, _, _, _, by omega, hmv, hmv2, rfl, rfl⟩
      clear hmv hmv2 hg1 hg2 hj
      have hX : rounds cs rs (j + 1) = pass cs rs (rounds cs rs j).1 (rounds cs rs j).2 := rfl
      generalize rounds cs rs (j + 1) = X at I2 t2 hX ⊢
      generalize rounds cs rs j = p at I1 hX ⊢
      obtain ⟨co0, at0⟩ := p
      obtain ⟨cX, aX⟩ := X
      dsimp only at I1 I2 t2 hX ⊢
      have len0 := turnI_len I1.1
      simp only [q_mVar, q_mCst, q_oVal, q_oLoc, q_mOp2, q_bOf, q_bTru, q_bNot, q_bAnd, q_bOr, q_vAnd, q_vOr, q_vNot, q_mIte, q_mOr, q_aNil, q_aCons, q_aoNil, q_aoCons, q_mTup, q_nLst, q_iSeq, q_iSign, q_iR1, q_iR2, q_iEnumM, q_iRevM, q_iZipM, q_sNext, q_sSeq, q_sExpr, q_sRet, q_sRetN, q_sRetL, q_sIf, q_sSet, q_sSetN, q_sAsg, q_sFor, q_nLc, q_bYes, q_mCall, q_nCall, q_mMeth, q_mMeth0, q_mFld, q_mProp, q_nMake, q_pNone, q_pSome, q_mSl, q_mB, q_mRef, q_mMut, q_mMut0, q_mDGet, q_sPut, q_sFldP, q_sAug, q_mTx, q_mIsT, q_mInK, q_sRaise0, q_mExc, q_sTry, q_iScr, q_nDict, q_mNeg, q_mCallK, q_nCallK, Res.toS, Res.bind, Res.lift, Res.calm, resO, resL, CRes.toR, CRes.toN, CRes.toB, CRes.quiet, cellO, setE, setS, dLt, dLe, dGt, dGe, dAdd, iSub, dAddA, dEq, dNe, eqB, sEq, fInt, gNm, gTp, gsCons, gsNil, dTru, dIsN, dNotN, locAt, isLst, mutK, insC, List.getElem?_cons_zero, List.getElem?_cons_succ, List.set_cons_zero, List.set_cons_succ, List.length_cons, List.length_nil, List.length_set, Option.map_some, Option.map_none, Option.bind_some, if_true, if_false, decide_eq_true_eq, decide_true, decide_false, Nat.zero_lt_succ, Nat.reduceLT, Nat.reduceAdd, and_true, true_and, and_self, Bool.false_eq_true, List.map_cons, List.map_nil, List.cons_append, List.nil_append, List.replicate_succ, List.replicate_zero, Nat.reduceSub, List.append_nil, reduceCtorEq, reduceIte, ne_eq, not_false_eq_true, not_true_eq_false, List.tail_cons, List.head?_cons, sz_le, sz_lt, Nat.reduceLeDiff, Nat.zero_le, ok62_int, Int.reduceLE, Int.reduceNeg, Int.reduceToNat, Bool.and_self, Int.reduceLT, Int.natCast_zero]
      generalize hL : loopF _ _ _ _ _ = L
      obtain ⟨env', S', eL, done, rest, at_, g, y7, y8, rfl, rfl, b1, b2, b3, b4, b5⟩ : ∃ env' S', L = .next env' S' ∧ ∃ (done rest : List (List Nat)) (at_ : Nat) (g : Bool) (y7 y8 : Vf.Slot), env' = [.val (.lst (rs.map pl)), .val (strS cs), .loc (.lst ((done ++ rest).map plc)), .loc (.lst ((done ++ rest).map strS)), .val (.int at_), .val (.bl g), x6, y7, y8] ∧ S' = S1 ∧
          done.length = rs.length ∧ done ++ (pass cs (rs.drop rs.length) rest at_).1 = cX ∧ (pass cs (rs.drop rs.length) rest at_).2 = aX ∧ rest.length = (rs.drop rs.length).length ∧ (g || moves (rs.drop rs.length) rest) = moves rs co0 := by
        rw [← hL]
        refine loop_enum (fun i env' S' => ∃ (done rest : List (List Nat)) (at_ : Nat) (g : Bool) (y7 y8 : Vf.Slot), env' = [.val (.lst (rs.map pl)), .val (strS cs), .loc (.lst ((done ++ rest).map plc)), .loc (.lst ((done ++ rest).map strS)), .val (.int at_), .val (.bl g), x6, y7, y8] ∧ S' = S1 ∧
          done.length = i ∧ done ++ (pass cs (rs.drop i) rest at_).1 = cX ∧ (pass cs (rs.drop i) rest at_).2 = aX ∧ rest.length = (rs.drop i).length ∧ (g || moves (rs.drop i) rest) = moves rs co0)
          ⟨[], co0, at0, false, x7, x8, rfl, rfl, rfl, by rw [List.drop_zero, ← hX]; rfl, by rw [List.drop_zero, ← hX], by simpa using len0, by rw [List.drop_zero]; rfl⟩ fun i r env S2 hx hI => ?_
        clear hL
        obtain ⟨done, rest, at_, g, y7, y8, rfl, rfl, b1, b2, b3, b4, b5⟩ := hI
        have hi := (List.getElem?_eq_some_iff.mp hx).1
        have hd := drop_cons hx
        rw [hd] at b2 b3 b4 b5
        cases rest with
        | nil => simp at b4
        | cons co rest =>
          have hr12 := hl r (List.mem_of_getElem? hx)
          have e0 := ix_L (xs := (done ++ co :: rest).map plc) (i := (i : Int)) (x := plc co) (by omega) (by rw [List.getElem?_map, show ((i : Int)).toNat = done.length by omega, get_mid]; rfl)
          have e1 := ix_L (xs := (done ++ co :: rest).map strS) (i := (i : Int)) (x := strS co) (by omega) (by rw [List.getElem?_map, show ((i : Int)).toNat = done.length by omega, get_mid]; rfl)
          simp only [pass] at b2 b3
          simp only [moves] at b5
          have gb := gs_bounds co
          have hco : co.length ≤ 1000 := by
            have m : co.length ≤ total cX := by
              rw [← b2]
              by_cases g : going r co = true
              · rw [if_pos g]
                have := len_total (done ++ (co ++ [cs.getD at_ 0]) :: (pass cs (rs.drop (i + 1)) rest (at_ + 1)).1) (co ++ [cs.getD at_ 0]) (by simp)
                rw [List.length_append] at this
                dsimp only; omega
              · rw [if_neg g]
                exact len_total _ _ (by simp)
            omega
          have ct := contains_ok r (gs co) ((co.length : Int) - gs co) (by omega) S2
          rw [show gs co + ((co.length : Int) - gs co) = (co.length : Int) by omega, Int.toNat_natCast] at ct
          have eg : decide (gs co ∈ rowAt r co.length) = going r co := rfl
          rw [eg] at ct
          have ct' : F_Plan___contains__ [pl r, plc co] S2 = .ok (.bl (going r co)) S2 := ct
          cases gg : going r co with
          | true =>
            rw [gg, if_pos rfl] at b2 b3
            rw [gg] at ct' b5
            have hat := (pass_total cs (rs.drop (i + 1)) rest (at_ + 1)).2
            dsimp only at b2 b3
            have e2 := ix_S (cs := cs) (k := (at_ : Int)) (c := cs.getD at_ 0) (by omega) (by rw [Int.toNat_natCast, List.getD_eq_getElem?_getD, List.getElem?_eq_getElem (by omega)]; rfl) (by omega)
            have e3 := add_S (a := co) (b := [cs.getD at_ 0]) (by simp; omega)
            have sp := stepped_ok (gs co) ((co.length : Int) - gs co) (cs.getD at_ 0) S2
            have hpc : D.tup [.int (gs co + gd (cs.getD at_ 0)), .int ((co.length : Int) - gs co + (1 - gd (cs.getD at_ 0)))] = plc (co ++ [cs.getD at_ 0]) := by
              unfold plc
              rw [gs_snoc, List.length_append, List.length_singleton]
              congr 3
              congr 1
              omega
            rw [hpc] at sp
            have sp' : F_stepped [plc co, strS [cs.getD at_ 0]] S2 = .ok (plc (co ++ [cs.getD at_ 0])) S2 := sp
            have e4 := put_L (xs := (done ++ co :: rest).map strS) (i := (i : Int)) (v := strS (co ++ [cs.getD at_ 0])) (by omega) (by simp; omega)
            rw [show ((i : Int)).toNat = done.length by omega, ← List.map_set, set_mid] at e4
            have e5 := put_L (xs := (done ++ co :: rest).map plc) (i := (i : Int)) (v := plc (co ++ [cs.getD at_ 0])) (by omega) (by simp; omega)
            rw [show ((i : Int)).toNat = done.length by omega, ← List.map_set, set_mid] at e5
            refine ⟨_, _, by simp only [q_mVar, q_mCst, q_oVal, q_oLoc, q_mOp2, q_bOf, q_bTru, q_bNot, q_bAnd, q_bOr, q_vAnd, q_vOr, q_vNot, q_mIte, q_mOr, q_aNil, q_aCons, q_aoNil, q_aoCons, q_mTup, q_nLst, q_iSeq, q_iSign, q_iR1, q_iR2, q_iEnumM, q_iRevM, q_iZipM, q_sNext, q_sSeq, q_sExpr, q_sRet, q_sRetN, q_sRetL, q_sIf, q_sSet, q_sSetN, q_sAsg, q_sFor, q_nLc, q_bYes, q_mCall, q_nCall, q_mMeth, q_mMeth0, q_mFld, q_mProp, q_nMake, q_pNone, q_pSome, q_mSl, q_mB, q_mRef, q_mMut, q_mMut0, q_mDGet, q_sPut, q_sFldP, q_sAug, q_mTx, q_mIsT, q_mInK, q_sRaise0, q_mExc, q_sTry, q_iScr, q_nDict, q_mNeg, q_mCallK, q_nCallK, Res.toS, Res.bind, Res.lift, Res.calm, resO, resL, CRes.toR, CRes.toN, CRes.toB, CRes.quiet, cellO, setE, setS, dLt, dLe, dGt, dGe, dAdd, iSub, dAddA, dEq, dNe, eqB, sEq, fInt, gNm, gTp, gsCons, gsNil, dTru, dIsN, dNotN, locAt, isLst, mutK, insC, List.getElem?_cons_zero, List.getElem?_cons_succ, List.set_cons_zero, List.set_cons_succ, List.length_cons, List.length_nil, List.length_set, Option.map_some, Option.map_none, Option.bind_some, if_true, if_false, decide_eq_true_eq, decide_true, decide_false, Nat.zero_lt_succ, Nat.reduceLT, Nat.reduceAdd, and_true, true_and, and_self, Bool.false_eq_true, List.map_cons, List.map_nil, List.cons_append, List.nil_append, List.replicate_succ, List.replicate_zero, Nat.reduceSub, List.append_nil, reduceCtorEq, reduceIte, ne_eq, not_false_eq_true, not_true_eq_false, List.tail_cons, List.head?_cons, sz_le, sz_lt, Nat.reduceLeDiff, Nat.zero_le, ok62_int, Int.reduceLE, Int.reduceNeg, Int.reduceToNat, Bool.and_self, Int.reduceLT, Int.natCast_zero, turnF, e0, e1, ct', id, e2, e3, e4, e5, sp'] <;> rfl, done ++ [co ++ [cs.getD at_ 0]], rest, at_ + 1, true, .val (.int (i : Int)), .val (pl r), ?_, rfl, by simp [b1], ?_, b3, by simpa using b4, by rw [← b5]; simp⟩
            · simp
            · rw [← b2]; simp
          | false =>
            rw [gg, if_neg Bool.false_ne_true] at b2 b3
            rw [gg] at ct' b5
            refine ⟨_, _, by simp only [q_mVar, q_mCst, q_oVal, q_oLoc, q_mOp2, q_bOf, q_bTru, q_bNot, q_bAnd, q_bOr, q_vAnd, q_vOr, q_vNot, q_mIte, q_mOr, q_aNil, q_aCons, q_aoNil, q_aoCons, q_mTup, q_nLst, q_iSeq, q_iSign, q_iR1, q_iR2, q_iEnumM, q_iRevM, q_iZipM, q_sNext, q_sSeq, q_sExpr, q_sRet, q_sRetN, q_sRetL, q_sIf, q_sSet, q_sSetN, q_sAsg, q_sFor, q_nLc, q_bYes, q_mCall, q_nCall, q_mMeth, q_mMeth0, q_mFld, q_mProp, q_nMake, q_pNone, q_pSome, q_mSl, q_mB, q_mRef, q_mMut, q_mMut0, q_mDGet, q_sPut, q_sFldP, q_sAug, q_mTx, q_mIsT, q_mInK, q_sRaise0, q_mExc, q_sTry, q_iScr, q_nDict, q_mNeg, q_mCallK, q_nCallK, Res.toS, Res.bind, Res.lift, Res.calm, resO, resL, CRes.toR, CRes.toN, CRes.toB, CRes.quiet, cellO, setE, setS, dLt, dLe, dGt, dGe, dAdd, iSub, dAddA, dEq, dNe, eqB, sEq, fInt, gNm, gTp, gsCons, gsNil, dTru, dIsN, dNotN, locAt, isLst, mutK, insC, List.getElem?_cons_zero, List.getElem?_cons_succ, List.set_cons_zero, List.set_cons_succ, List.length_cons, List.length_nil, List.length_set, Option.map_some, Option.map_none, Option.bind_some, if_true, if_false, decide_eq_true_eq, decide_true, decide_false, Nat.zero_lt_succ, Nat.reduceLT, Nat.reduceAdd, and_true, true_and, and_self, Bool.false_eq_true, List.map_cons, List.map_nil, List.cons_append, List.nil_append, List.replicate_succ, List.replicate_zero, Nat.reduceSub, List.append_nil, reduceCtorEq, reduceIte, ne_eq, not_false_eq_true, not_true_eq_false, List.tail_cons, List.head?_cons, sz_le, sz_lt, Nat.reduceLeDiff, Nat.zero_le, ok62_int, Int.reduceLE, Int.reduceNeg, Int.reduceToNat, Bool.and_self, Int.reduceLT, Int.natCast_zero, turnF, e0, e1, ct', id] <;> rfl, done ++ [co], rest, at_, g, .val (.int (i : Int)), .val (pl r), ?_, rfl, by simp [b1], ?_, b3, by simpa using b4, by rw [← b5]; simp⟩
            · simp
            · rw [← b2]; simp
      rw [List.drop_length] at b2 b3 b4 b5
      have hrest : rest = [] := List.length_eq_zero_iff.mp b4
      subst hrest
      simp only [pass, moves, List.append_nil, Bool.or_false] at b2 b3 b5
      subst b2 b3 b5
      exact ⟨_, _, by rw [eL, List.append_nil]⟩
  simp only [q_mVar, q_mCst, q_oVal, q_oLoc, q_mOp2, q_bOf, q_bTru, q_bNot, q_bAnd, q_bOr, q_vAnd, q_vOr, q_vNot, q_mIte, q_mOr, q_aNil, q_aCons, q_aoNil, q_aoCons, q_mTup, q_nLst, q_iSeq, q_iSign, q_iR1, q_iR2, q_iEnumM, q_iRevM, q_iZipM, q_sNext, q_sSeq, q_sExpr, q_sRet, q_sRetN, q_sRetL, q_sIf, q_sSet, q_sSetN, q_sAsg, q_sFor, q_nLc, q_bYes, q_mCall, q_nCall, q_mMeth, q_mMeth0, q_mFld, q_mProp, q_nMake, q_pNone, q_pSome, q_mSl, q_mB, q_mRef, q_mMut, q_mMut0, q_mDGet, q_sPut, q_sFldP, q_sAug, q_mTx, q_mIsT, q_mInK, q_sRaise0, q_mExc, q_sTry, q_iScr, q_nDict, q_mNeg, q_mCallK, q_nCallK, Res.toS, Res.bind, Res.lift, Res.calm, resO, resL, CRes.toR, CRes.toN, CRes.toB, CRes.quiet, cellO, setE, setS, dLt, dLe, dGt, dGe, dAdd, iSub, dAddA, dEq, dNe, eqB, sEq, fInt, gNm, gTp, gsCons, gsNil, dTru, dIsN, dNotN, locAt, isLst, mutK, insC, List.getElem?_cons_zero, List.getElem?_cons_succ, List.set_cons_zero, List.set_cons_succ, List.length_cons, List.length_nil, List.length_set, Option.map_some, Option.map_none, Option.bind_some, if_true, if_false, decide_eq_true_eq, decide_true, decide_false, Nat.zero_lt_succ, Nat.reduceLT, Nat.reduceAdd, and_true, true_and, and_self, Bool.false_eq_true, List.map_cons, List.map_nil, List.cons_append, List.nil_append, List.replicate_succ, List.replicate_zero, Nat.reduceSub, List.append_nil, reduceCtorEq, reduceIte, ne_eq, not_false_eq_true, not_true_eq_false, List.tail_cons, List.head?_cons, sz_le, sz_lt, Nat.reduceLeDiff, Nat.zero_le, ok62_int, Int.reduceLE, Int.reduceNeg, Int.reduceToNat, Bool.and_self, Int.reduceLT, Int.natCast_zero, eL] at hq
  exact hq.symm
theorem run_lot_ok (rs : List Rows) (cs : List Nat) (t : Bool) (hl : ∀ r ∈ rs, r.length ≤ 12) (ne : rs ≠ []) (hn : need rs ≤ cs.length) (hc : cs.length ≤ 1000) (hr : rs.length ≤ 100) (S0 : List D) :
    F_run_lot [.lst (rs.map pl), strS cs, .bl t] S0 = .new (.lst ((if t then (rounds cs rs (maxLen rs)).1 else (inRow cs rs 0).1).map strS)) S0 := by
  have h1 := all_looks_ok rs hr S0
  have h2 := run_rest_ok rs cs hl hn hc hr S0
  have h3 := run_turns_ok rs cs hl ne hn hc hr S0
  have h4 := len_S (a := cs) (by omega)
  have h5 : ¬ (cs.length : Int) < (need rs : Nat) := by omega
  cases t with
  | true => simp only [q_mVar, q_mCst, q_oVal, q_oLoc, q_mOp2, q_bOf, q_bTru, q_bNot, q_bAnd, q_bOr, q_vAnd, q_vOr, q_vNot, q_mIte, q_mOr, q_aNil, q_aCons, q_aoNil, q_aoCons, q_mTup, q_nLst, q_iSeq, q_iSign, q_iR1, q_iR2, q_iEnumM, q_iRevM, q_iZipM, q_sNext, q_sSeq, q_sExpr, q_sRet, q_sRetN, q_sRetL, q_sIf, q_sSet, q_sSetN, q_sAsg, q_sFor, q_nLc, q_bYes, q_mCall, q_nCall, q_mMeth, q_mMeth0, q_mFld, q_mProp, q_nMake, q_pNone, q_pSome, q_mSl, q_mB, q_mRef, q_mMut, q_mMut0, q_mDGet, q_sPut, q_sFldP, q_sAug, q_mTx, q_mIsT, q_mInK, q_sRaise0, q_mExc, q_sTry, q_iScr, q_nDict, q_mNeg, q_mCallK, q_nCallK, Res.toS, Res.bind, Res.lift, Res.calm, resO, resL, CRes.toR, CRes.toN, CRes.toB, CRes.quiet, cellO, setE, setS, dLt, dLe, dGt, dGe, dAdd, iSub, dAddA, dEq, dNe, eqB, sEq, fInt, gNm, gTp, gsCons, gsNil, dTru, dIsN, dNotN, locAt, isLst, mutK, insC, List.getElem?_cons_zero, List.getElem?_cons_succ, List.set_cons_zero, List.set_cons_succ, List.length_cons, List.length_nil, List.length_set, Option.map_some, Option.map_none, Option.bind_some, if_true, if_false, decide_eq_true_eq, decide_true, decide_false, Nat.zero_lt_succ, Nat.reduceLT, Nat.reduceAdd, and_true, true_and, and_self, Bool.false_eq_true, List.map_cons, List.map_nil, List.cons_append, List.nil_append, List.replicate_succ, List.replicate_zero, Nat.reduceSub, List.append_nil, reduceCtorEq, reduceIte, ne_eq, not_false_eq_true, not_true_eq_false, List.tail_cons, List.head?_cons, sz_le, sz_lt, Nat.reduceLeDiff, Nat.zero_le, ok62_int, Int.reduceLE, Int.reduceNeg, Int.reduceToNat, Bool.and_self, Int.reduceLT, Int.natCast_zero, F_run_lot, fnOf, ms_run_lot, env0, h1, h3, h4, h5]
  | false => simp only [q_mVar, q_mCst, q_oVal, q_oLoc, q_mOp2, q_bOf, q_bTru, q_bNot, q_bAnd, q_bOr, q_vAnd, q_vOr, q_vNot, q_mIte, q_mOr, q_aNil, q_aCons, q_aoNil, q_aoCons, q_mTup, q_nLst, q_iSeq, q_iSign, q_iR1, q_iR2, q_iEnumM, q_iRevM, q_iZipM, q_sNext, q_sSeq, q_sExpr, q_sRet, q_sRetN, q_sRetL, q_sIf, q_sSet, q_sSetN, q_sAsg, q_sFor, q_nLc, q_bYes, q_mCall, q_nCall, q_mMeth, q_mMeth0, q_mFld, q_mProp, q_nMake, q_pNone, q_pSome, q_mSl, q_mB, q_mRef, q_mMut, q_mMut0, q_mDGet, q_sPut, q_sFldP, q_sAug, q_mTx, q_mIsT, q_mInK, q_sRaise0, q_mExc, q_sTry, q_iScr, q_nDict, q_mNeg, q_mCallK, q_nCallK, Res.toS, Res.bind, Res.lift, Res.calm, resO, resL, CRes.toR, CRes.toN, CRes.toB, CRes.quiet, cellO, setE, setS, dLt, dLe, dGt, dGe, dAdd, iSub, dAddA, dEq, dNe, eqB, sEq, fInt, gNm, gTp, gsCons, gsNil, dTru, dIsN, dNotN, locAt, isLst, mutK, insC, List.getElem?_cons_zero, List.getElem?_cons_succ, List.set_cons_zero, List.set_cons_succ, List.length_cons, List.length_nil, List.length_set, Option.map_some, Option.map_none, Option.bind_some, if_true, if_false, decide_eq_true_eq, decide_true, decide_false, Nat.zero_lt_succ, Nat.reduceLT, Nat.reduceAdd, and_true, true_and, and_self, Bool.false_eq_true, List.map_cons, List.map_nil, List.cons_append, List.nil_append, List.replicate_succ, List.replicate_zero, Nat.reduceSub, List.append_nil, reduceCtorEq, reduceIte, ne_eq, not_false_eq_true, not_true_eq_false, List.tail_cons, List.head?_cons, sz_le, sz_lt, Nat.reduceLeDiff, Nat.zero_le, ok62_int, Int.reduceLE, Int.reduceNeg, Int.reduceToNat, Bool.and_self, Int.reduceLT, Int.natCast_zero, F_run_lot, fnOf, ms_run_lot, env0, h1, h2, h4, h5]
theorem run_lot_bad (rs : List Rows) (cs : List Nat) (t : Bool) (hn : cs.length < need rs) (hc : cs.length ≤ 1000) (hr : rs.length ≤ 100) (S0 : List D) :
    F_run_lot [.lst (rs.map pl), strS cs, .bl t] S0 = .err ⟨"BadLot", [], []⟩ S0 := by
  have h1 := all_looks_ok rs hr S0
  have h4 := len_S (a := cs) (by omega)
  have h5 : (cs.length : Int) < (need rs : Nat) := by omega
  simp only [q_mVar, q_mCst, q_oVal, q_oLoc, q_mOp2, q_bOf, q_bTru, q_bNot, q_bAnd, q_bOr, q_vAnd, q_vOr, q_vNot, q_mIte, q_mOr, q_aNil, q_aCons, q_aoNil, q_aoCons, q_mTup, q_nLst, q_iSeq, q_iSign, q_iR1, q_iR2, q_iEnumM, q_iRevM, q_iZipM, q_sNext, q_sSeq, q_sExpr, q_sRet, q_sRetN, q_sRetL, q_sIf, q_sSet, q_sSetN, q_sAsg, q_sFor, q_nLc, q_bYes, q_mCall, q_nCall, q_mMeth, q_mMeth0, q_mFld, q_mProp, q_nMake, q_pNone, q_pSome, q_mSl, q_mB, q_mRef, q_mMut, q_mMut0, q_mDGet, q_sPut, q_sFldP, q_sAug, q_mTx, q_mIsT, q_mInK, q_sRaise0, q_mExc, q_sTry, q_iScr, q_nDict, q_mNeg, q_mCallK, q_nCallK, Res.toS, Res.bind, Res.lift, Res.calm, resO, resL, CRes.toR, CRes.toN, CRes.toB, CRes.quiet, cellO, setE, setS, dLt, dLe, dGt, dGe, dAdd, iSub, dAddA, dEq, dNe, eqB, sEq, fInt, gNm, gTp, gsCons, gsNil, dTru, dIsN, dNotN, locAt, isLst, mutK, insC, List.getElem?_cons_zero, List.getElem?_cons_succ, List.set_cons_zero, List.set_cons_succ, List.length_cons, List.length_nil, List.length_set, Option.map_some, Option.map_none, Option.bind_some, if_true, if_false, decide_eq_true_eq, decide_true, decide_false, Nat.zero_lt_succ, Nat.reduceLT, Nat.reduceAdd, and_true, true_and, and_self, Bool.false_eq_true, List.map_cons, List.map_nil, List.cons_append, List.nil_append, List.replicate_succ, List.replicate_zero, Nat.reduceSub, List.append_nil, reduceCtorEq, reduceIte, ne_eq, not_false_eq_true, not_true_eq_false, List.tail_cons, List.head?_cons, sz_le, sz_lt, Nat.reduceLeDiff, Nat.zero_le, ok62_int, Int.reduceLE, Int.reduceNeg, Int.reduceToNat, Bool.and_self, Int.reduceLT, Int.natCast_zero, F_run_lot, fnOf, ms_run_lot, env0, h1, h4, h5]
end K84
namespace K84
open PySem PySem.Spec PyProof.Rows L2 L2H Vf
open SX (S)
section
variable {x : Str} {i : Int} {xs : List D}
theorem ty1 : isTy "bool" (.str x) = some false := by simp [isTy, tyD]
theorem ty2 : isTy "int" (.str x) = some false := by simp [isTy, tyD]
theorem ty3 : isTy "str" (.str x) = some true := by simp [isTy, tyD]
theorem ty4 : isTy "bool" (.int i) = some false := by simp [isTy, tyD]
theorem ty5 : isTy "int" (.int i) = some true := by simp [isTy, tyD]
theorem ty6 : isTy "bool" (.lst xs) = some false := by simp [isTy, tyD]
theorem ty7 : isTy "int" (.lst xs) = some false := by simp [isTy, tyD]
theorem ty8 : isTy "str" (.lst xs) = some false := by simp [isTy, tyD]
theorem ty9 : isTy "list" (.lst xs) = some true := by simp [isTy, tyD]
theorem ty10 : isTy "tuple" (.lst xs) = some false := by simp [isTy, tyD]
theorem ty11 : isTy "bool" (.tup xs) = some false := by simp [isTy, tyD]
theorem ty12 : isTy "int" (.tup xs) = some false := by simp [isTy, tyD]
theorem ty13 : isTy "str" (.tup xs) = some false := by simp [isTy, tyD]
theorem ty14 : isTy "list" (.tup xs) = some false := by simp [isTy, tyD]
theorem ty15 : isTy "tuple" (.tup xs) = some true := by simp [isTy, tyD]
end
theorem len_tup {xs : List D} : fLen [.tup xs] = some (.int xs.length) := rfl
theorem m_str (n : Nat) (x : Str) (S' : List D) : F_law_matches (n + 1) [.str x, .str x] S' = .ok (.bl true) S' := by
  simp only [q_mVar, q_mCst, q_oVal, q_oLoc, q_mOp2, q_bOf, q_bTru, q_bNot, q_bAnd, q_bOr, q_vAnd, q_vOr, q_vNot, q_mIte, q_mOr, q_aNil, q_aCons, q_aoNil, q_aoCons, q_mTup, q_nLst, q_iSeq, q_iSign, q_iR1, q_iR2, q_iEnumM, q_iRevM, q_iZipM, q_sNext, q_sSeq, q_sExpr, q_sRet, q_sRetN, q_sRetL, q_sIf, q_sSet, q_sSetN, q_sAsg, q_sFor, q_nLc, q_bYes, q_mCall, q_nCall, q_mMeth, q_mMeth0, q_mFld, q_mProp, q_nMake, q_pNone, q_pSome, q_mSl, q_mB, q_mRef, q_mMut, q_mMut0, q_mDGet, q_sPut, q_sFldP, q_sAug, q_mTx, q_mIsT, q_mInK, q_sRaise0, q_mExc, q_sTry, q_iScr, q_nDict, q_mNeg, q_mCallK, q_nCallK, Res.toS, Res.bind, Res.lift, Res.calm, resO, resL, CRes.toR, CRes.toN, CRes.toB, CRes.quiet, cellO, setE, setS, dLt, dLe, dGt, dGe, dAdd, iSub, dAddA, dEq, dNe, eqB, sEq, fInt, gNm, gTp, gsCons, gsNil, dTru, dIsN, dNotN, locAt, isLst, mutK, insC, List.getElem?_cons_zero, List.getElem?_cons_succ, List.set_cons_zero, List.set_cons_succ, List.length_cons, List.length_nil, List.length_set, Option.map_some, Option.map_none, Option.bind_some, if_true, if_false, decide_eq_true_eq, decide_true, decide_false, Nat.zero_lt_succ, Nat.reduceLT, Nat.reduceAdd, and_true, true_and, and_self, Bool.false_eq_true, List.map_cons, List.map_nil, List.cons_append, List.nil_append, List.replicate_succ, List.replicate_zero, Nat.reduceSub, List.append_nil, reduceCtorEq, reduceIte, ne_eq, not_false_eq_true, not_true_eq_false, List.tail_cons, List.head?_cons, sz_le, sz_lt, Nat.reduceLeDiff, Nat.zero_le, ok62_int, Int.reduceLE, Int.reduceNeg, Int.reduceToNat, Bool.and_self, Int.reduceLT, Int.natCast_zero, F_law_matches, fnOf, ms_law_matches, env0, ty1, ty2, ty3, Option.map_some, if_true]
theorem m_int (n : Nat) (x : Int) (S' : List D) : F_law_matches (n + 1) [.int x, .int x] S' = .ok (.bl true) S' := by
  simp only [q_mVar, q_mCst, q_oVal, q_oLoc, q_mOp2, q_bOf, q_bTru, q_bNot, q_bAnd, q_bOr, q_vAnd, q_vOr, q_vNot, q_mIte, q_mOr, q_aNil, q_aCons, q_aoNil, q_aoCons, q_mTup, q_nLst, q_iSeq, q_iSign, q_iR1, q_iR2, q_iEnumM, q_iRevM, q_iZipM, q_sNext, q_sSeq, q_sExpr, q_sRet, q_sRetN, q_sRetL, q_sIf, q_sSet, q_sSetN, q_sAsg, q_sFor, q_nLc, q_bYes, q_mCall, q_nCall, q_mMeth, q_mMeth0, q_mFld, q_mProp, q_nMake, q_pNone, q_pSome, q_mSl, q_mB, q_mRef, q_mMut, q_mMut0, q_mDGet, q_sPut, q_sFldP, q_sAug, q_mTx, q_mIsT, q_mInK, q_sRaise0, q_mExc, q_sTry, q_iScr, q_nDict, q_mNeg, q_mCallK, q_nCallK, Res.toS, Res.bind, Res.lift, Res.calm, resO, resL, CRes.toR, CRes.toN, CRes.toB, CRes.quiet, cellO, setE, setS, dLt, dLe, dGt, dGe, dAdd, iSub, dAddA, dEq, dNe, eqB, sEq, fInt, gNm, gTp, gsCons, gsNil, dTru, dIsN, dNotN, locAt, isLst, mutK, insC, List.getElem?_cons_zero, List.getElem?_cons_succ, List.set_cons_zero, List.set_cons_succ, List.length_cons, List.length_nil, List.length_set, Option.map_some, Option.map_none, Option.bind_some, if_true, if_false, decide_eq_true_eq, decide_true, decide_false, Nat.zero_lt_succ, Nat.reduceLT, Nat.reduceAdd, and_true, true_and, and_self, Bool.false_eq_true, List.map_cons, List.map_nil, List.cons_append, List.nil_append, List.replicate_succ, List.replicate_zero, Nat.reduceSub, List.append_nil, reduceCtorEq, reduceIte, ne_eq, not_false_eq_true, not_true_eq_false, List.tail_cons, List.head?_cons, sz_le, sz_lt, Nat.reduceLeDiff, Nat.zero_le, ok62_int, Int.reduceLE, Int.reduceNeg, Int.reduceToNat, Bool.and_self, Int.reduceLT, Int.natCast_zero, F_law_matches, fnOf, ms_law_matches, env0, ty4, ty5, Option.map_some, if_true, Bool.not_false]
theorem m_tup (n : Nat) (as es : List D) (S' : List D) (hl : as.length = es.length) (hs : es.length ≤ 10000) (h : ∀ (i : Nat) x y, as[i]? = some x → es[i]? = some y → F_law_matches n [x, y] S' = .ok (.bl true) S') : F_law_matches (n + 1) [.tup as, .tup es] S' = .ok (.bl true) S' := by
  generalize hq : F_law_matches (n + 1) [.tup as, .tup es] S' = q
  have h1 : ((as.length : Int) = (es.length : Int)) := by omega
  simp only [q_mVar, q_mCst, q_oVal, q_oLoc, q_mOp2, q_bOf, q_bTru, q_bNot, q_bAnd, q_bOr, q_vAnd, q_vOr, q_vNot, q_mIte, q_mOr, q_aNil, q_aCons, q_aoNil, q_aoCons, q_mTup, q_nLst, q_iSeq, q_iSign, q_iR1, q_iR2, q_iEnumM, q_iRevM, q_iZipM, q_sNext, q_sSeq, q_sExpr, q_sRet, q_sRetN, q_sRetL, q_sIf, q_sSet, q_sSetN, q_sAsg, q_sFor, q_nLc, q_bYes, q_mCall, q_nCall, q_mMeth, q_mMeth0, q_mFld, q_mProp, q_nMake, q_pNone, q_pSome, q_mSl, q_mB, q_mRef, q_mMut, q_mMut0, q_mDGet, q_sPut, q_sFldP, q_sAug, q_mTx, q_mIsT, q_mInK, q_sRaise0, q_mExc, q_sTry, q_iScr, q_nDict, q_mNeg, q_mCallK, q_nCallK, Res.toS, Res.bind, Res.lift, Res.calm, resO, resL, CRes.toR, CRes.toN, CRes.toB, CRes.quiet, cellO, setE, setS, dLt, dLe, dGt, dGe, dAdd, iSub, dAddA, dEq, dNe, eqB, sEq, fInt, gNm, gTp, gsCons, gsNil, dTru, dIsN, dNotN, locAt, isLst, mutK, insC, List.getElem?_cons_zero, List.getElem?_cons_succ, List.set_cons_zero, List.set_cons_succ, List.length_cons, List.length_nil, List.length_set, Option.map_some, Option.map_none, Option.bind_some, if_true, if_false, decide_eq_true_eq, decide_true, decide_false, Nat.zero_lt_succ, Nat.reduceLT, Nat.reduceAdd, and_true, true_and, and_self, Bool.false_eq_true, List.map_cons, List.map_nil, List.cons_append, List.nil_append, List.replicate_succ, List.replicate_zero, Nat.reduceSub, List.append_nil, reduceCtorEq, reduceIte, ne_eq, not_false_eq_true, not_true_eq_false, List.tail_cons, List.head?_cons, sz_le, sz_lt, Nat.reduceLeDiff, Nat.zero_le, ok62_int, Int.reduceLE, Int.reduceNeg, Int.reduceToNat, Bool.and_self, Int.reduceLT, Int.natCast_zero, F_law_matches, fnOf, ms_law_matches, env0, ty11, ty12, ty13, ty14, ty15, len_tup, h1, Bool.not_false, Bool.not_true, ok62_nat (show es.length ≤ 10000000 by omega), Int.toNat_natCast] at hq
  generalize hL : loopF _ _ _ _ _ = L at hq
  obtain ⟨env', S2, eL, x2, rfl, rfl⟩ : ∃ env' S2, L = .next env' S2 ∧ ∃ x2, env' = [.val (.tup as), .val (.tup es), x2] ∧ S2 = S' := by
    rw [← hL]
    refine loop_range (fun k env' S2 => ∃ x2, env' = [.val (.tup as), .val (.tup es), x2] ∧ S2 = S') ⟨.none, rfl, rfl⟩ fun k env S1 hk hI => ?_
    obtain ⟨x2, rfl, rfl⟩ := hI
    obtain ⟨x, hx⟩ : ∃ x, as[k]? = some x := ⟨_, List.getElem?_eq_getElem (by omega)⟩
    obtain ⟨y, hy⟩ : ∃ y, es[k]? = some y := ⟨_, List.getElem?_eq_getElem (by omega)⟩
    have e1 := ix_T (xs := as) (i := 0 + (k : Int)) (x := x) (by omega) (by rw [show (0 + (k : Int)).toNat = k by omega]; exact hx)
    have e2 := ix_T (xs := es) (i := 0 + (k : Int)) (x := y) (by omega) (by rw [show (0 + (k : Int)).toNat = k by omega]; exact hy)
    exact ⟨_, _, by simp only [q_mVar, q_mCst, q_oVal, q_oLoc, q_mOp2, q_bOf, q_bTru, q_bNot, q_bAnd, q_bOr, q_vAnd, q_vOr, q_vNot, q_mIte, q_mOr, q_aNil, q_aCons, q_aoNil, q_aoCons, q_mTup, q_nLst, q_iSeq, q_iSign, q_iR1, q_iR2, q_iEnumM, q_iRevM, q_iZipM, q_sNext, q_sSeq, q_sExpr, q_sRet, q_sRetN, q_sRetL, q_sIf, q_sSet, q_sSetN, q_sAsg, q_sFor, q_nLc, q_bYes, q_mCall, q_nCall, q_mMeth, q_mMeth0, q_mFld, q_mProp, q_nMake, q_pNone, q_pSome, q_mSl, q_mB, q_mRef, q_mMut, q_mMut0, q_mDGet, q_sPut, q_sFldP, q_sAug, q_mTx, q_mIsT, q_mInK, q_sRaise0, q_mExc, q_sTry, q_iScr, q_nDict, q_mNeg, q_mCallK, q_nCallK, Res.toS, Res.bind, Res.lift, Res.calm, resO, resL, CRes.toR, CRes.toN, CRes.toB, CRes.quiet, cellO, setE, setS, dLt, dLe, dGt, dGe, dAdd, iSub, dAddA, dEq, dNe, eqB, sEq, fInt, gNm, gTp, gsCons, gsNil, dTru, dIsN, dNotN, locAt, isLst, mutK, insC, List.getElem?_cons_zero, List.getElem?_cons_succ, List.set_cons_zero, List.set_cons_succ, List.length_cons, List.length_nil, List.length_set, Option.map_some, Option.map_none, Option.bind_some, if_true, if_false, decide_eq_true_eq, decide_true, decide_false, Nat.zero_lt_succ, Nat.reduceLT, Nat.reduceAdd, and_true, true_and, and_self, Bool.false_eq_true, List.map_cons, List.map_nil, List.cons_append, List.nil_append, List.replicate_succ, List.replicate_zero, Nat.reduceSub, List.append_nil, reduceCtorEq, reduceIte, ne_eq, not_false_eq_true, not_true_eq_false, List.tail_cons, List.head?_cons, sz_le, sz_lt, Nat.reduceLeDiff, Nat.zero_le, ok62_int, Int.reduceLE, Int.reduceNeg, Int.reduceToNat, Bool.and_self, Int.reduceLT, Int.natCast_zero, turnF, e1, e2, h k x y hx hy, Bool.not_true] <;> rfl, _, rfl, rfl⟩
  simp only [q_mVar, q_mCst, q_oVal, q_oLoc, q_mOp2, q_bOf, q_bTru, q_bNot, q_bAnd, q_bOr, q_vAnd, q_vOr, q_vNot, q_mIte, q_mOr, q_aNil, q_aCons, q_aoNil, q_aoCons, q_mTup, q_nLst, q_iSeq, q_iSign, q_iR1, q_iR2, q_iEnumM, q_iRevM, q_iZipM, q_sNext, q_sSeq, q_sExpr, q_sRet, q_sRetN, q_sRetL, q_sIf, q_sSet, q_sSetN, q_sAsg, q_sFor, q_nLc, q_bYes, q_mCall, q_nCall, q_mMeth, q_mMeth0, q_mFld, q_mProp, q_nMake, q_pNone, q_pSome, q_mSl, q_mB, q_mRef, q_mMut, q_mMut0, q_mDGet, q_sPut, q_sFldP, q_sAug, q_mTx, q_mIsT, q_mInK, q_sRaise0, q_mExc, q_sTry, q_iScr, q_nDict, q_mNeg, q_mCallK, q_nCallK, Res.toS, Res.bind, Res.lift, Res.calm, resO, resL, CRes.toR, CRes.toN, CRes.toB, CRes.quiet, cellO, setE, setS, dLt, dLe, dGt, dGe, dAdd, iSub, dAddA, dEq, dNe, eqB, sEq, fInt, gNm, gTp, gsCons, gsNil, dTru, dIsN, dNotN, locAt, isLst, mutK, insC, List.getElem?_cons_zero, List.getElem?_cons_succ, List.set_cons_zero, List.set_cons_succ, List.length_cons, List.length_nil, List.length_set, Option.map_some, Option.map_none, Option.bind_some, if_true, if_false, decide_eq_true_eq, decide_true, decide_false, Nat.zero_lt_succ, Nat.reduceLT, Nat.reduceAdd, and_true, true_and, and_self, Bool.false_eq_true, List.map_cons, List.map_nil, List.cons_append, List.nil_append, List.replicate_succ, List.replicate_zero, Nat.reduceSub, List.append_nil, reduceCtorEq, reduceIte, ne_eq, not_false_eq_true, not_true_eq_false, List.tail_cons, List.head?_cons, sz_le, sz_lt, Nat.reduceLeDiff, Nat.zero_le, ok62_int, Int.reduceLE, Int.reduceNeg, Int.reduceToNat, Bool.and_self, Int.reduceLT, Int.natCast_zero, eL] at hq
  exact hq.symm
theorem m_lst (n : Nat) (a : D) (as es : List D) (S' : List D) (ha : a = .lst as ∨ ∃ k, a = .ref k ∧ S'[k]? = some (.lst as)) (hl : as.length = es.length) (hs : es.length ≤ 10000) (h : ∀ (i : Nat) x y, as[i]? = some x → es[i]? = some y → F_law_matches n [x, y] S' = .ok (.bl true) S') : F_law_matches (n + 1) [a, .lst es] S' = .ok (.bl true) S' := by
  have h1 : ((as.length : Int) = (es.length : Int)) := by omega
  rcases ha with rfl | ⟨r, rfl, hr⟩
  · generalize hq : F_law_matches (n + 1) _ S' = q
    simp only [q_mVar, q_mCst, q_oVal, q_oLoc, q_mOp2, q_bOf, q_bTru, q_bNot, q_bAnd, q_bOr, q_vAnd, q_vOr, q_vNot, q_mIte, q_mOr, q_aNil, q_aCons, q_aoNil, q_aoCons, q_mTup, q_nLst, q_iSeq, q_iSign, q_iR1, q_iR2, q_iEnumM, q_iRevM, q_iZipM, q_sNext, q_sSeq, q_sExpr, q_sRet, q_sRetN, q_sRetL, q_sIf, q_sSet, q_sSetN, q_sAsg, q_sFor, q_nLc, q_bYes, q_mCall, q_nCall, q_mMeth, q_mMeth0, q_mFld, q_mProp, q_nMake, q_pNone, q_pSome, q_mSl, q_mB, q_mRef, q_mMut, q_mMut0, q_mDGet, q_sPut, q_sFldP, q_sAug, q_mTx, q_mIsT, q_mInK, q_sRaise0, q_mExc, q_sTry, q_iScr, q_nDict, q_mNeg, q_mCallK, q_nCallK, Res.toS, Res.bind, Res.lift, Res.calm, resO, resL, CRes.toR, CRes.toN, CRes.toB, CRes.quiet, cellO, setE, setS, dLt, dLe, dGt, dGe, dAdd, iSub, dAddA, dEq, dNe, eqB, sEq, fInt, gNm, gTp, gsCons, gsNil, dTru, dIsN, dNotN, locAt, isLst, mutK, insC, List.getElem?_cons_zero, List.getElem?_cons_succ, List.set_cons_zero, List.set_cons_succ, List.length_cons, List.length_nil, List.length_set, Option.map_some, Option.map_none, Option.bind_some, if_true, if_false, decide_eq_true_eq, decide_true, decide_false, Nat.zero_lt_succ, Nat.reduceLT, Nat.reduceAdd, and_true, true_and, and_self, Bool.false_eq_true, List.map_cons, List.map_nil, List.cons_append, List.nil_append, List.replicate_succ, List.replicate_zero, Nat.reduceSub, List.append_nil, reduceCtorEq, reduceIte, ne_eq, not_false_eq_true, not_true_eq_false, List.tail_cons, List.head?_cons, sz_le, sz_lt, Nat.reduceLeDiff, Nat.zero_le, ok62_int, Int.reduceLE, Int.reduceNeg, Int.reduceToNat, Bool.and_self, Int.reduceLT, Int.natCast_zero, F_law_matches, fnOf, ms_law_matches, env0, ty6, ty7, ty8, ty9, ty10, len_lst, h1, Bool.not_false, Bool.not_true, ok62_nat (show es.length ≤ 10000000 by omega), Int.toNat_natCast] at hq
    generalize hL : loopF _ _ _ _ _ = L at hq
    obtain ⟨env', S2, eL, x2, rfl, rfl⟩ : ∃ env' S2, L = .next env' S2 ∧ ∃ x2, env' = [.val (.lst as), .val (.lst es), x2] ∧ S2 = S' := by
      rw [← hL]
      refine loop_range (fun k env' S2 => ∃ x2, env' = [.val (.lst as), .val (.lst es), x2] ∧ S2 = S') ⟨.none, rfl, rfl⟩ fun k env S1 hk hI => ?_
      obtain ⟨x2, rfl, rfl⟩ := hI
      obtain ⟨x, hx⟩ : ∃ x, as[k]? = some x := ⟨_, List.getElem?_eq_getElem (by omega)⟩
      obtain ⟨y, hy⟩ : ∃ y, es[k]? = some y := ⟨_, List.getElem?_eq_getElem (by omega)⟩
      have e1 := ix_L (xs := as) (i := 0 + (k : Int)) (x := x) (by omega) (by rw [show (0 + (k : Int)).toNat = k by omega]; exact hx)
      have e2 := ix_L (xs := es) (i := 0 + (k : Int)) (x := y) (by omega) (by rw [show (0 + (k : Int)).toNat = k by omega]; exact hy)
      exact ⟨_, _, by simp only [q_mVar, q_mCst, q_oVal, q_oLoc, q_mOp2, q_bOf, q_bTru, q_bNot, q_bAnd, q_bOr, q_vAnd, q_vOr, q_vNot, q_mIte, q_mOr, q_aNil, q_aCons, q_aoNil, q_aoCons, q_mTup, q_nLst, q_iSeq, q_iSign, q_iR1, q_iR2, q_iEnumM, q_iRevM, q_iZipM, q_sNext, q_sSeq, q_sExpr, q_sRet, q_sRetN, q_sRetL, q_sIf, q_sSet, q_sSetN, q_sAsg, q_sFor, q_nLc, q_bYes, q_mCall, q_nCall, q_mMeth, q_mMeth0, q_mFld, q_mProp, q_nMake, q_pNone, q_pSome, q_mSl, q_mB, q_mRef, q_mMut, q_mMut0, q_mDGet, q_sPut, q_sFldP, q_sAug, q_mTx, q_mIsT, q_mInK, q_sRaise0, q_mExc, q_sTry, q_iScr, q_nDict, q_mNeg, q_mCallK, q_nCallK, Res.toS, Res.bind, Res.lift, Res.calm, resO, resL, CRes.toR, CRes.toN, CRes.toB, CRes.quiet, cellO, setE, setS, dLt, dLe, dGt, dGe, dAdd, iSub, dAddA, dEq, dNe, eqB, sEq, fInt, gNm, gTp, gsCons, gsNil, dTru, dIsN, dNotN, locAt, isLst, mutK, insC, List.getElem?_cons_zero, List.getElem?_cons_succ, List.set_cons_zero, List.set_cons_succ, List.length_cons, List.length_nil, List.length_set, Option.map_some, Option.map_none, Option.bind_some, if_true, if_false, decide_eq_true_eq, decide_true, decide_false, Nat.zero_lt_succ, Nat.reduceLT, Nat.reduceAdd, and_true, true_and, and_self, Bool.false_eq_true, List.map_cons, List.map_nil, List.cons_append, List.nil_append, List.replicate_succ, List.replicate_zero, Nat.reduceSub, List.append_nil, reduceCtorEq, reduceIte, ne_eq, not_false_eq_true, not_true_eq_false, List.tail_cons, List.head?_cons, sz_le, sz_lt, Nat.reduceLeDiff, Nat.zero_le, ok62_int, Int.reduceLE, Int.reduceNeg, Int.reduceToNat, Bool.and_self, Int.reduceLT, Int.natCast_zero, turnF, e1, e2, h k x y hx hy, Bool.not_true] <;> rfl, _, rfl, rfl⟩
    simp only [q_mVar, q_mCst, q_oVal, q_oLoc, q_mOp2, q_bOf, q_bTru, q_bNot, q_bAnd, q_bOr, q_vAnd, q_vOr, q_vNot, q_mIte, q_mOr, q_aNil, q_aCons, q_aoNil, q_aoCons, q_mTup, q_nLst, q_iSeq, q_iSign, q_iR1, q_iR2, q_iEnumM, q_iRevM, q_iZipM, q_sNext, q_sSeq, q_sExpr, q_sRet, q_sRetN, q_sRetL, q_sIf, q_sSet, q_sSetN, q_sAsg, q_sFor, q_nLc, q_bYes, q_mCall, q_nCall, q_mMeth, q_mMeth0, q_mFld, q_mProp, q_nMake, q_pNone, q_pSome, q_mSl, q_mB, q_mRef, q_mMut, q_mMut0, q_mDGet, q_sPut, q_sFldP, q_sAug, q_mTx, q_mIsT, q_mInK, q_sRaise0, q_mExc, q_sTry, q_iScr, q_nDict, q_mNeg, q_mCallK, q_nCallK, Res.toS, Res.bind, Res.lift, Res.calm, resO, resL, CRes.toR, CRes.toN, CRes.toB, CRes.quiet, cellO, setE, setS, dLt, dLe, dGt, dGe, dAdd, iSub, dAddA, dEq, dNe, eqB, sEq, fInt, gNm, gTp, gsCons, gsNil, dTru, dIsN, dNotN, locAt, isLst, mutK, insC, List.getElem?_cons_zero, List.getElem?_cons_succ, List.set_cons_zero, List.set_cons_succ, List.length_cons, List.length_nil, List.length_set, Option.map_some, Option.map_none, Option.bind_some, if_true, if_false, decide_eq_true_eq, decide_true, decide_false, Nat.zero_lt_succ, Nat.reduceLT, Nat.reduceAdd, and_true, true_and, and_self, Bool.false_eq_true, List.map_cons, List.map_nil, List.cons_append, List.nil_append, List.replicate_succ, List.replicate_zero, Nat.reduceSub, List.append_nil, reduceCtorEq, reduceIte, ne_eq, not_false_eq_true, not_true_eq_false, List.tail_cons, List.head?_cons, sz_le, sz_lt, Nat.reduceLeDiff, Nat.zero_le, ok62_int, Int.reduceLE, Int.reduceNeg, Int.reduceToNat, Bool.and_self, Int.reduceLT, Int.natCast_zero, eL] at hq
    exact hq.symm
  · generalize hq : F_law_matches (n + 1) _ S' = q
    simp only [q_mVar, q_mCst, q_oVal, q_oLoc, q_mOp2, q_bOf, q_bTru, q_bNot, q_bAnd, q_bOr, q_vAnd, q_vOr, q_vNot, q_mIte, q_mOr, q_aNil, q_aCons, q_aoNil, q_aoCons, q_mTup, q_nLst, q_iSeq, q_iSign, q_iR1, q_iR2, q_iEnumM, q_iRevM, q_iZipM, q_sNext, q_sSeq, q_sExpr, q_sRet, q_sRetN, q_sRetL, q_sIf, q_sSet, q_sSetN, q_sAsg, q_sFor, q_nLc, q_bYes, q_mCall, q_nCall, q_mMeth, q_mMeth0, q_mFld, q_mProp, q_nMake, q_pNone, q_pSome, q_mSl, q_mB, q_mRef, q_mMut, q_mMut0, q_mDGet, q_sPut, q_sFldP, q_sAug, q_mTx, q_mIsT, q_mInK, q_sRaise0, q_mExc, q_sTry, q_iScr, q_nDict, q_mNeg, q_mCallK, q_nCallK, Res.toS, Res.bind, Res.lift, Res.calm, resO, resL, CRes.toR, CRes.toN, CRes.toB, CRes.quiet, cellO, setE, setS, dLt, dLe, dGt, dGe, dAdd, iSub, dAddA, dEq, dNe, eqB, sEq, fInt, gNm, gTp, gsCons, gsNil, dTru, dIsN, dNotN, locAt, isLst, mutK, insC, List.getElem?_cons_zero, List.getElem?_cons_succ, List.set_cons_zero, List.set_cons_succ, List.length_cons, List.length_nil, List.length_set, Option.map_some, Option.map_none, Option.bind_some, if_true, if_false, decide_eq_true_eq, decide_true, decide_false, Nat.zero_lt_succ, Nat.reduceLT, Nat.reduceAdd, and_true, true_and, and_self, Bool.false_eq_true, List.map_cons, List.map_nil, List.cons_append, List.nil_append, List.replicate_succ, List.replicate_zero, Nat.reduceSub, List.append_nil, reduceCtorEq, reduceIte, ne_eq, not_false_eq_true, not_true_eq_false, List.tail_cons, List.head?_cons, sz_le, sz_lt, Nat.reduceLeDiff, Nat.zero_le, ok62_int, Int.reduceLE, Int.reduceNeg, Int.reduceToNat, Bool.and_self, Int.reduceLT, Int.natCast_zero, F_law_matches, fnOf, ms_law_matches, env0, ty6, ty7, ty8, ty9, ty10, len_lst, hr, h1, Bool.not_false, Bool.not_true, ok62_nat (show es.length ≤ 10000000 by omega), Int.toNat_natCast] at hq
    generalize hL : loopF _ _ _ _ _ = L at hq
    obtain ⟨env', S2, eL, x2, rfl, rfl⟩ : ∃ env' S2, L = .next env' S2 ∧ ∃ x2, env' = [.val (.ref r), .val (.lst es), x2] ∧ S2 = S' := by
      rw [← hL]
      refine loop_range (fun k env' S2 => ∃ x2, env' = [.val (.ref r), .val (.lst es), x2] ∧ S2 = S') ⟨.none, rfl, rfl⟩ fun k env S1 hk hI => ?_
      obtain ⟨x2, rfl, rfl⟩ := hI
      obtain ⟨x, hx⟩ : ∃ x, as[k]? = some x := ⟨_, List.getElem?_eq_getElem (by omega)⟩
      obtain ⟨y, hy⟩ : ∃ y, es[k]? = some y := ⟨_, List.getElem?_eq_getElem (by omega)⟩
      have e1 := ix_L (xs := as) (i := 0 + (k : Int)) (x := x) (by omega) (by rw [show (0 + (k : Int)).toNat = k by omega]; exact hx)
      have e2 := ix_L (xs := es) (i := 0 + (k : Int)) (x := y) (by omega) (by rw [show (0 + (k : Int)).toNat = k by omega]; exact hy)
      exact ⟨_, _, by simp only [q_mVar, q_mCst, q_oVal, q_oLoc, q_mOp2, q_bOf, q_bTru, q_bNot, q_bAnd, q_bOr, q_vAnd, q_vOr, q_vNot, q_mIte, q_mOr, q_aNil, q_aCons, q_aoNil, q_aoCons, q_mTup, q_nLst, q_iSeq, q_iSign, q_iR1, q_iR2, q_iEnumM, q_iRevM, q_iZipM, q_sNext, q_sSeq, q_sExpr, q_sRet, q_sRetN, q_sRetL, q_sIf, q_sSet, q_sSetN, q_sAsg, q_sFor, q_nLc, q_bYes, q_mCall, q_nCall, q_mMeth, q_mMeth0, q_mFld, q_mProp, q_nMake, q_pNone, q_pSome, q_mSl, q_mB, q_mRef, q_mMut, q_mMut0, q_mDGet, q_sPut, q_sFldP, q_sAug, q_mTx, q_mIsT, q_mInK, q_sRaise0, q_mExc, q_sTry, q_iScr, q_nDict, q_mNeg, q_mCallK, q_nCallK, Res.toS, Res.bind, Res.lift, Res.calm, resO, resL, CRes.toR, CRes.toN, CRes.toB, CRes.quiet, cellO, setE, setS, dLt, dLe, dGt, dGe, dAdd, iSub, dAddA, dEq, dNe, eqB, sEq, fInt, gNm, gTp, gsCons, gsNil, dTru, dIsN, dNotN, locAt, isLst, mutK, insC, List.getElem?_cons_zero, List.getElem?_cons_succ, List.set_cons_zero, List.set_cons_succ, List.length_cons, List.length_nil, List.length_set, Option.map_some, Option.map_none, Option.bind_some, if_true, if_false, decide_eq_true_eq, decide_true, decide_false, Nat.zero_lt_succ, Nat.reduceLT, Nat.reduceAdd, and_true, true_and, and_self, Bool.false_eq_true, List.map_cons, List.map_nil, List.cons_append, List.nil_append, List.replicate_succ, List.replicate_zero, Nat.reduceSub, List.append_nil, reduceCtorEq, reduceIte, ne_eq, not_false_eq_true, not_true_eq_false, List.tail_cons, List.head?_cons, sz_le, sz_lt, Nat.reduceLeDiff, Nat.zero_le, ok62_int, Int.reduceLE, Int.reduceNeg, Int.reduceToNat, Bool.and_self, Int.reduceLT, Int.natCast_zero, turnF, hr, e1, e2, h k x y hx hy, Bool.not_true] <;> rfl, _, rfl, rfl⟩
    simp only [q_mVar, q_mCst, q_oVal, q_oLoc, q_mOp2, q_bOf, q_bTru, q_bNot, q_bAnd, q_bOr, q_vAnd, q_vOr, q_vNot, q_mIte, q_mOr, q_aNil, q_aCons, q_aoNil, q_aoCons, q_mTup, q_nLst, q_iSeq, q_iSign, q_iR1, q_iR2, q_iEnumM, q_iRevM, q_iZipM, q_sNext, q_sSeq, q_sExpr, q_sRet, q_sRetN, q_sRetL, q_sIf, q_sSet, q_sSetN, q_sAsg, q_sFor, q_nLc, q_bYes, q_mCall, q_nCall, q_mMeth, q_mMeth0, q_mFld, q_mProp, q_nMake, q_pNone, q_pSome, q_mSl, q_mB, q_mRef, q_mMut, q_mMut0, q_mDGet, q_sPut, q_sFldP, q_sAug, q_mTx, q_mIsT, q_mInK, q_sRaise0, q_mExc, q_sTry, q_iScr, q_nDict, q_mNeg, q_mCallK, q_nCallK, Res.toS, Res.bind, Res.lift, Res.calm, resO, resL, CRes.toR, CRes.toN, CRes.toB, CRes.quiet, cellO, setE, setS, dLt, dLe, dGt, dGe, dAdd, iSub, dAddA, dEq, dNe, eqB, sEq, fInt, gNm, gTp, gsCons, gsNil, dTru, dIsN, dNotN, locAt, isLst, mutK, insC, List.getElem?_cons_zero, List.getElem?_cons_succ, List.set_cons_zero, List.set_cons_succ, List.length_cons, List.length_nil, List.length_set, Option.map_some, Option.map_none, Option.bind_some, if_true, if_false, decide_eq_true_eq, decide_true, decide_false, Nat.zero_lt_succ, Nat.reduceLT, Nat.reduceAdd, and_true, true_and, and_self, Bool.false_eq_true, List.map_cons, List.map_nil, List.cons_append, List.nil_append, List.replicate_succ, List.replicate_zero, Nat.reduceSub, List.append_nil, reduceCtorEq, reduceIte, ne_eq, not_false_eq_true, not_true_eq_false, List.tail_cons, List.head?_cons, sz_le, sz_lt, Nat.reduceLeDiff, Nat.zero_le, ok62_int, Int.reduceLE, Int.reduceNeg, Int.reduceToNat, Bool.and_self, Int.reduceLT, Int.natCast_zero, eL] at hq
    exact hq.symm
/-- the told courses match -/
theorem m_told (a : D) (ys : List (List Nat)) (S' : List D) (ha : a = .lst (ys.map strS) ∨ ∃ k, a = .ref k ∧ S'[k]? = some (.lst (ys.map strS))) (hy : ys.length ≤ 1000) : F_law_matches 5 [.tup [.str "told", a], .tup [.str "told", .lst (ys.map strS)]] S' = .ok (.bl true) S' := by
  refine m_tup 4 _ _ S' rfl (by simp) fun i x y h1 h2 => ?_
  match i with
  | 0 => cases h1; cases h2; exact m_str 3 _ S'
  | 1 =>
    cases h1; cases h2
    refine m_lst 3 a _ _ S' ha rfl (by simp; omega) fun i x y h1 h2 => ?_
    rw [h1] at h2; cases h2
    rw [List.getElem?_map] at h1
    cases q : ys[i]? with
    | none => rw [q] at h1; cases h1
    | some c => rw [q] at h1; cases h1; exact m_str 2 _ S'
  | i + 2 => cases h1
theorem m_bad (S' : List D) : F_law_matches 5 [.tup [.str "raised", .str "BadLot"], .tup [.str "raised", .str "BadLot"]] S' = .ok (.bl true) S' := by
  refine m_tup 4 _ _ S' rfl (by simp) fun i x y h1 h2 => ?_
  match i with
  | 0 => cases h1; cases h2; exact m_str 3 _ S'
  | 1 => cases h1; cases h2; exact m_str 3 _ S'
  | i + 2 => cases h1
theorem m_rows (rows : Rows) (a : D) (S' : List D) (ha : a = rowsD rows ∨ ∃ k, a = .ref k ∧ S'[k]? = some (rowsD rows)) (hl : rows.length ≤ 100) (hr : ∀ r ∈ rows, r.length ≤ 100) : F_law_matches 5 [a, rowsD rows] S' = .ok (.bl true) S' := by
  refine m_lst 4 a _ _ S' ha rfl (by simp; omega) fun i x y h1 h2 => ?_
  rw [h1] at h2; cases h2
  rw [List.getElem?_map] at h1
  cases q : rows[i]? with
  | none => rw [q] at h1; cases h1
  | some r =>
    rw [q] at h1; cases h1
    have hr := hr r (List.mem_of_getElem? q)
    refine m_lst 3 _ _ _ S' (.inl rfl) rfl (by simp; omega) fun i x y h1 h2 => ?_
    rw [h1] at h2; cases h2
    rw [List.getElem?_map] at h1
    cases q : r[i]? with
    | none => rw [q] at h1; cases h1
    | some c => rw [q] at h1; cases h1; exact m_int 2 _ S'
/-! the caught error -/
theorem class_ok (S' : List D) : F_law_class_of [.lst [.bl false, .bl false, .bl false, .bl false, .bl true, .bl false, .bl false, .bl false, .bl false, .bl false, .bl false, .bl false, .bl false, .bl false, .bl false, .bl false, .bl false, .bl false, .bl false, .bl false, .bl false, .bl false, .bl false], .bl false, .bl true] S' = .ok (.str "BadLot") S' := by
  kernel_rfl
end K84
namespace K84
open PySem PySem.Spec PyProof.Rows L2 L2H Vf
open SX (S)
theorem sx0 : subX "BadLot" "BadFraction" = false := by decide +kernel
theorem sx1 : subX "BadLot" "BadShare" = false := by decide +kernel
theorem sx2 : subX "BadLot" "BadPoly" = false := by decide +kernel
theorem sx3 : subX "BadLot" "BadEnds" = false := by decide +kernel
theorem sx4 : subX "BadLot" "BadLot" = true := by decide +kernel
theorem sx5 : subX "BadLot" "BadTelling" = false := by decide +kernel
theorem sx6 : subX "BadLot" "BadVerdict" = false := by decide +kernel
theorem sx7 : subX "BadLot" "BadDesign" = false := by decide +kernel
theorem sx8 : subX "BadLot" "NotStop" = false := by decide +kernel
theorem sx9 : subX "BadLot" "BadText" = false := by decide +kernel
theorem sx10 : subX "BadLot" "BadPlan" = false := by decide +kernel
theorem sx11 : subX "BadLot" "BadCourse" = false := by decide +kernel
theorem sx12 : subX "BadLot" "BadPage" = false := by decide +kernel
theorem sx13 : subX "BadLot" "TooLong" = false := by decide +kernel
theorem sx14 : subX "BadLot" "TooDeep" = false := by decide +kernel
theorem sx15 : subX "BadLot" "TooMany" = false := by decide +kernel
theorem sx16 : subX "BadLot" "Untold" = false := by decide +kernel
theorem sx17 : subX "BadLot" "HasGap" = false := by decide +kernel
theorem sx18 : subX "BadLot" "Begun" = false := by decide +kernel
theorem sx19 : subX "BadLot" "Unknown" = false := by decide +kernel
theorem sx20 : subX "BadLot" "Twice" = false := by decide +kernel
theorem sx21 : subX "BadLot" "Stopped" = false := by decide +kernel
theorem sx22 : subX "BadLot" "NotEnded" = false := by decide +kernel
theorem sx23 : subX "BadLot" "Refused" = false := by decide +kernel
theorem hh_ask : ∀ c a S d S2, hd_law_ask c S = some (d, S2) → ∃ env2, su_law_ask c a (hEnv 6 3 a) S = .ret d env2 S2 := by
  intro c a S' d S2 h
  unfold hd_law_ask at h
  by_cases q : c = "BadLot"
  · subst q
    rw [if_pos rfl] at h
    cases h
    have he : hEnv 6 3 a = [.none, .none, .none, .val (.adr a), .none, .none] := rfl
    have hc := class_ok S'
    refine ⟨[.none, .none, .none, .val (.adr a), .val (.lst [.bl false, .bl false, .bl false, .bl false, .bl true, .bl false, .bl false, .bl false, .bl false, .bl false, .bl false, .bl false, .bl false, .bl false, .bl false, .bl false, .bl false, .bl false, .bl false, .bl false, .bl false, .bl false, .bl false]), .val (.str "BadLot")], ?_⟩
    rw [he]
    unfold su_law_ask
    simp only [q_mVar, q_mCst, q_oVal, q_oLoc, q_mOp2, q_bOf, q_bTru, q_bNot, q_bAnd, q_bOr, q_vAnd, q_vOr, q_vNot, q_mIte, q_mOr, q_aNil, q_aCons, q_aoNil, q_aoCons, q_mTup, q_nLst, q_iSeq, q_iSign, q_iR1, q_iR2, q_iEnumM, q_iRevM, q_iZipM, q_sNext, q_sSeq, q_sExpr, q_sRet, q_sRetN, q_sRetL, q_sIf, q_sSet, q_sSetN, q_sAsg, q_sFor, q_nLc, q_bYes, q_mCall, q_nCall, q_mMeth, q_mMeth0, q_mFld, q_mProp, q_nMake, q_pNone, q_pSome, q_mSl, q_mB, q_mRef, q_mMut, q_mMut0, q_mDGet, q_sPut, q_sFldP, q_sAug, q_mTx, q_mIsT, q_mInK, q_sRaise0, q_mExc, q_sTry, q_iScr, q_nDict, q_mNeg, q_mCallK, q_nCallK, Res.toS, Res.bind, Res.lift, Res.calm, resO, resL, CRes.toR, CRes.toN, CRes.toB, CRes.quiet, cellO, setE, setS, dLt, dLe, dGt, dGe, dAdd, iSub, dAddA, dEq, dNe, eqB, sEq, fInt, gNm, gTp, gsCons, gsNil, dTru, dIsN, dNotN, locAt, isLst, mutK, insC, List.getElem?_cons_zero, List.getElem?_cons_succ, List.set_cons_zero, List.set_cons_succ, List.length_cons, List.length_nil, List.length_set, Option.map_some, Option.map_none, Option.bind_some, if_true, if_false, decide_eq_true_eq, decide_true, decide_false, Nat.zero_lt_succ, Nat.reduceLT, Nat.reduceAdd, and_true, true_and, and_self, Bool.false_eq_true, List.map_cons, List.map_nil, List.cons_append, List.nil_append, List.replicate_succ, List.replicate_zero, Nat.reduceSub, List.append_nil, reduceCtorEq, reduceIte, ne_eq, not_false_eq_true, not_true_eq_false, List.tail_cons, List.head?_cons, sz_le, sz_lt, Nat.reduceLeDiff, Nat.zero_le, ok62_int, Int.reduceLE, Int.reduceNeg, Int.reduceToNat, Bool.and_self, Int.reduceLT, Int.natCast_zero, sx0, sx1, sx2, sx3, sx4, sx5, sx6, sx7, sx8, sx9, sx10, sx11, sx12, sx13, sx14, sx15, sx16, sx17, sx18, sx19, sx20, sx21, sx22, sx23, hc]
  · rw [if_neg q] at h; cases h
def due (cs : List Nat) (rs : List Rows) (t : Bool) : List (List Nat) := if t then (rounds cs rs (maxLen rs)).1 else (inRow cs rs 0).1
theorem ask_ok (rs : List Rows) (cs : List Nat) (how : Int) (hl : ∀ r ∈ rs, r.length ≤ 12) (ne : rs ≠ []) (hn : need rs ≤ cs.length) (hc : cs.length ≤ 1000) (hr : rs.length ≤ 100) (S0 : List D) :
    F_law_ask [.lst (rs.map pl), strS cs, .int how] S0 = .ok (.tup [.str "told", .ref S0.length]) (S0 ++ [.lst ((due cs rs (decide (how = 2))).map strS)]) := by
  have h1 := run_lot_ok rs cs (decide (how = 2)) hl ne hn hc hr S0
  by_cases c : how = 0
  · subst c
    have e : decide ((0 : Int) = 2) = false := by decide
    rw [e] at h1 ⊢
    have h2 : FD_run_lot [.lst (rs.map pl), strS cs] S0 = .new (.lst ((due cs rs false).map strS)) S0 := h1
    simp only [q_mVar, q_mCst, q_oVal, q_oLoc, q_mOp2, q_bOf, q_bTru, q_bNot, q_bAnd, q_bOr, q_vAnd, q_vOr, q_vNot, q_mIte, q_mOr, q_aNil, q_aCons, q_aoNil, q_aoCons, q_mTup, q_nLst, q_iSeq, q_iSign, q_iR1, q_iR2, q_iEnumM, q_iRevM, q_iZipM, q_sNext, q_sSeq, q_sExpr, q_sRet, q_sRetN, q_sRetL, q_sIf, q_sSet, q_sSetN, q_sAsg, q_sFor, q_nLc, q_bYes, q_mCall, q_nCall, q_mMeth, q_mMeth0, q_mFld, q_mProp, q_nMake, q_pNone, q_pSome, q_mSl, q_mB, q_mRef, q_mMut, q_mMut0, q_mDGet, q_sPut, q_sFldP, q_sAug, q_mTx, q_mIsT, q_mInK, q_sRaise0, q_mExc, q_sTry, q_iScr, q_nDict, q_mNeg, q_mCallK, q_nCallK, Res.toS, Res.bind, Res.lift, Res.calm, resO, resL, CRes.toR, CRes.toN, CRes.toB, CRes.quiet, cellO, setE, setS, dLt, dLe, dGt, dGe, dAdd, iSub, dAddA, dEq, dNe, eqB, sEq, fInt, gNm, gTp, gsCons, gsNil, dTru, dIsN, dNotN, locAt, isLst, mutK, insC, List.getElem?_cons_zero, List.getElem?_cons_succ, List.set_cons_zero, List.set_cons_succ, List.length_cons, List.length_nil, List.length_set, Option.map_some, Option.map_none, Option.bind_some, if_true, if_false, decide_eq_true_eq, decide_true, decide_false, Nat.zero_lt_succ, Nat.reduceLT, Nat.reduceAdd, and_true, true_and, and_self, Bool.false_eq_true, List.map_cons, List.map_nil, List.cons_append, List.nil_append, List.replicate_succ, List.replicate_zero, Nat.reduceSub, List.append_nil, reduceCtorEq, reduceIte, ne_eq, not_false_eq_true, not_true_eq_false, List.tail_cons, List.head?_cons, sz_le, sz_lt, Nat.reduceLeDiff, Nat.zero_le, ok62_int, Int.reduceLE, Int.reduceNeg, Int.reduceToNat, Bool.and_self, Int.reduceLT, Int.natCast_zero, F_law_ask, fnOf, ms_law_ask, env0, h2]
  · simp only [q_mVar, q_mCst, q_oVal, q_oLoc, q_mOp2, q_bOf, q_bTru, q_bNot, q_bAnd, q_bOr, q_vAnd, q_vOr, q_vNot, q_mIte, q_mOr, q_aNil, q_aCons, q_aoNil, q_aoCons, q_mTup, q_nLst, q_iSeq, q_iSign, q_iR1, q_iR2, q_iEnumM, q_iRevM, q_iZipM, q_sNext, q_sSeq, q_sExpr, q_sRet, q_sRetN, q_sRetL, q_sIf, q_sSet, q_sSetN, q_sAsg, q_sFor, q_nLc, q_bYes, q_mCall, q_nCall, q_mMeth, q_mMeth0, q_mFld, q_mProp, q_nMake, q_pNone, q_pSome, q_mSl, q_mB, q_mRef, q_mMut, q_mMut0, q_mDGet, q_sPut, q_sFldP, q_sAug, q_mTx, q_mIsT, q_mInK, q_sRaise0, q_mExc, q_sTry, q_iScr, q_nDict, q_mNeg, q_mCallK, q_nCallK, Res.toS, Res.bind, Res.lift, Res.calm, resO, resL, CRes.toR, CRes.toN, CRes.toB, CRes.quiet, cellO, setE, setS, dLt, dLe, dGt, dGe, dAdd, iSub, dAddA, dEq, dNe, eqB, sEq, fInt, gNm, gTp, gsCons, gsNil, dTru, dIsN, dNotN, locAt, isLst, mutK, insC, List.getElem?_cons_zero, List.getElem?_cons_succ, List.set_cons_zero, List.set_cons_succ, List.length_cons, List.length_nil, List.length_set, Option.map_some, Option.map_none, Option.bind_some, if_true, if_false, decide_eq_true_eq, decide_true, decide_false, Nat.zero_lt_succ, Nat.reduceLT, Nat.reduceAdd, and_true, true_and, and_self, Bool.false_eq_true, List.map_cons, List.map_nil, List.cons_append, List.nil_append, List.replicate_succ, List.replicate_zero, Nat.reduceSub, List.append_nil, reduceCtorEq, reduceIte, ne_eq, not_false_eq_true, not_true_eq_false, List.tail_cons, List.head?_cons, sz_le, sz_lt, Nat.reduceLeDiff, Nat.zero_le, ok62_int, Int.reduceLE, Int.reduceNeg, Int.reduceToNat, Bool.and_self, Int.reduceLT, Int.natCast_zero, F_law_ask, fnOf, ms_law_ask, env0, c, h1, due, decide_eq_true_eq]
theorem ask_bad (rs : List Rows) (cs : List Nat) (how : Int) (hn : cs.length < need rs) (hc : cs.length ≤ 1000) (hr : rs.length ≤ 100) (S0 : List D) :
    F_law_ask [.lst (rs.map pl), strS cs, .int how] S0 = .ok (.tup [.str "raised", .str "BadLot"]) S0 := by
  have h1 := run_lot_bad rs cs (decide (how = 2)) hn hc hr S0
  by_cases c : how = 0
  · subst c
    have e : decide ((0 : Int) = 2) = false := by decide
    rw [e] at h1
    have h2 : FD_run_lot [.lst (rs.map pl), strS cs] S0 = .err ⟨"BadLot", [], []⟩ S0 := h1
    simp only [q_mVar, q_mCst, q_oVal, q_oLoc, q_mOp2, q_bOf, q_bTru, q_bNot, q_bAnd, q_bOr, q_vAnd, q_vOr, q_vNot, q_mIte, q_mOr, q_aNil, q_aCons, q_aoNil, q_aoCons, q_mTup, q_nLst, q_iSeq, q_iSign, q_iR1, q_iR2, q_iEnumM, q_iRevM, q_iZipM, q_sNext, q_sSeq, q_sExpr, q_sRet, q_sRetN, q_sRetL, q_sIf, q_sSet, q_sSetN, q_sAsg, q_sFor, q_nLc, q_bYes, q_mCall, q_nCall, q_mMeth, q_mMeth0, q_mFld, q_mProp, q_nMake, q_pNone, q_pSome, q_mSl, q_mB, q_mRef, q_mMut, q_mMut0, q_mDGet, q_sPut, q_sFldP, q_sAug, q_mTx, q_mIsT, q_mInK, q_sRaise0, q_mExc, q_sTry, q_iScr, q_nDict, q_mNeg, q_mCallK, q_nCallK, Res.toS, Res.bind, Res.lift, Res.calm, resO, resL, CRes.toR, CRes.toN, CRes.toB, CRes.quiet, cellO, setE, setS, dLt, dLe, dGt, dGe, dAdd, iSub, dAddA, dEq, dNe, eqB, sEq, fInt, gNm, gTp, gsCons, gsNil, dTru, dIsN, dNotN, locAt, isLst, mutK, insC, List.getElem?_cons_zero, List.getElem?_cons_succ, List.set_cons_zero, List.set_cons_succ, List.length_cons, List.length_nil, List.length_set, Option.map_some, Option.map_none, Option.bind_some, if_true, if_false, decide_eq_true_eq, decide_true, decide_false, Nat.zero_lt_succ, Nat.reduceLT, Nat.reduceAdd, and_true, true_and, and_self, Bool.false_eq_true, List.map_cons, List.map_nil, List.cons_append, List.nil_append, List.replicate_succ, List.replicate_zero, Nat.reduceSub, List.append_nil, reduceCtorEq, reduceIte, ne_eq, not_false_eq_true, not_true_eq_false, List.tail_cons, List.head?_cons, sz_le, sz_lt, Nat.reduceLeDiff, Nat.zero_le, ok62_int, Int.reduceLE, Int.reduceNeg, Int.reduceToNat, Bool.and_self, Int.reduceLT, Int.natCast_zero, F_law_ask, fnOf, ms_law_ask, env0, h2, List.mem_singleton, hd_law_ask]
  · simp only [q_mVar, q_mCst, q_oVal, q_oLoc, q_mOp2, q_bOf, q_bTru, q_bNot, q_bAnd, q_bOr, q_vAnd, q_vOr, q_vNot, q_mIte, q_mOr, q_aNil, q_aCons, q_aoNil, q_aoCons, q_mTup, q_nLst, q_iSeq, q_iSign, q_iR1, q_iR2, q_iEnumM, q_iRevM, q_iZipM, q_sNext, q_sSeq, q_sExpr, q_sRet, q_sRetN, q_sRetL, q_sIf, q_sSet, q_sSetN, q_sAsg, q_sFor, q_nLc, q_bYes, q_mCall, q_nCall, q_mMeth, q_mMeth0, q_mFld, q_mProp, q_nMake, q_pNone, q_pSome, q_mSl, q_mB, q_mRef, q_mMut, q_mMut0, q_mDGet, q_sPut, q_sFldP, q_sAug, q_mTx, q_mIsT, q_mInK, q_sRaise0, q_mExc, q_sTry, q_iScr, q_nDict, q_mNeg, q_mCallK, q_nCallK, Res.toS, Res.bind, Res.lift, Res.calm, resO, resL, CRes.toR, CRes.toN, CRes.toB, CRes.quiet, cellO, setE, setS, dLt, dLe, dGt, dGe, dAdd, iSub, dAddA, dEq, dNe, eqB, sEq, fInt, gNm, gTp, gsCons, gsNil, dTru, dIsN, dNotN, locAt, isLst, mutK, insC, List.getElem?_cons_zero, List.getElem?_cons_succ, List.set_cons_zero, List.set_cons_succ, List.length_cons, List.length_nil, List.length_set, Option.map_some, Option.map_none, Option.bind_some, if_true, if_false, decide_eq_true_eq, decide_true, decide_false, Nat.zero_lt_succ, Nat.reduceLT, Nat.reduceAdd, and_true, true_and, and_self, Bool.false_eq_true, List.map_cons, List.map_nil, List.cons_append, List.nil_append, List.replicate_succ, List.replicate_zero, Nat.reduceSub, List.append_nil, reduceCtorEq, reduceIte, ne_eq, not_false_eq_true, not_true_eq_false, List.tail_cons, List.head?_cons, sz_le, sz_lt, Nat.reduceLeDiff, Nat.zero_le, ok62_int, Int.reduceLE, Int.reduceNeg, Int.reduceToNat, Bool.and_self, Int.reduceLT, Int.natCast_zero, F_law_ask, fnOf, ms_law_ask, env0, c, h1, List.mem_singleton, hd_law_ask]
end K84
namespace K84
open PySem PySem.Spec PyProof.Rows L2 L2H Vf
open SX (S)
def endOf (r : SRes) : CRes := match r with
  | .ret d _ S => .ok d S
  | .retN d _ S => .new d S
  | .next _ S => .ok .non S
  | .err x _ S => .err x S
  | _ => .stuck
def Good (r : SRes) : Prop := ∃ S', endOf r = .ok (.bl true) S'
theorem good_seq {a b : MS} {env : List Vf.Slot} {S' : List D} (h : ∃ env2 S2, a env S' = .next env2 S2 ∧ Good (b env2 S2)) : Good (sSeq a b env S') := by
  obtain ⟨env2, S2, e, g⟩ := h
  unfold sSeq
  rw [e]
  exact g
theorem good_next {a b : MS} {env env2 : List Vf.Slot} {S' S2 : List D} (e : a env S' = .next env2 S2) (g : Good (b env2 S2)) : Good (sSeq a b env S') := good_seq ⟨env2, S2, e, g⟩
/-- all the plans are well made -/
structure PsOk (rs : List Rows) : Prop where
  ok : ∀ r ∈ rs, OkR r
  len : ∀ r ∈ rs, r.length ≤ 12
theorem rows_pl (r : Rows) : (rowsD r).pl = true := by
  show D.pls (r.map rowD) = true
  refine pls_all fun d hd => ?_
  obtain ⟨x, _, rfl⟩ := List.mem_map.mp hd
  show D.pls (x.map .int) = true
  refine pls_all fun d hd => ?_
  obtain ⟨y, _, rfl⟩ := List.mem_map.mp hd
  rfl
theorem rows_dep (r : Rows) : (rowsD r).dep ≤ 64 := by
  show D.deps (r.map rowD) + 1 ≤ 64
  have : D.deps (r.map rowD) ≤ 1 := by
    refine deps_all fun d hd => ?_
    obtain ⟨x, _, rfl⟩ := List.mem_map.mp hd
    show D.deps (x.map .int) + 1 ≤ 1
    have : D.deps (x.map .int) ≤ 0 := by
      refine deps_all fun d hd => ?_
      obtain ⟨y, _, rfl⟩ := List.mem_map.mp hd
      exact Nat.le_refl 0
    omega
  omega
theorem rowsD_inj {a b : Rows} (h : rowsD a = rowsD b) : a = b := by
  have h1 : a.map rowD = b.map rowD := by injection h
  refine (List.map_inj_right fun x y e => ?_).mp h1
  have h2 : x.map D.int = y.map D.int := by injection e
  exact (List.map_inj_right fun i j e => by injection e).mp h2
/-- only the first letters matter -/
theorem oneN_take (r : Rows) (cs : List Nat) (n s : Nat) (h : s + r.length ≤ n) : oneN r (cs.take n) s = oneN r cs s := by
  have go : ∀ j, iter (one r (cs.take n)) j ([], s) = iter (one r cs) j ([], s) := by
    intro j
    induction j with
    | zero => rfl
    | succ j ih =>
      rw [iter_succ, iter_succ, ih]
      have o := one_iter r cs s j
      generalize iter (one r cs) j ([], s) = p at o
      unfold one
      by_cases g : going r p.1 = true
      · have := going_lt g
        have := o.at_
        have e : (cs.take n).getD p.2 0 = cs.getD p.2 0 := by
          rw [List.getD_eq_getElem?_getD, List.getD_eq_getElem?_getD, List.getElem?_take_of_lt (by omega)]
        rw [if_pos g, if_pos g, e]
      · rw [if_neg g, if_neg g]
  exact go _
theorem inRow_take (cs : List Nat) (n : Nat) : ∀ (ps : List Rows) (s : Nat), s + need ps ≤ n → inRow (cs.take n) ps s = inRow cs ps s
  | [], s, _ => rfl
  | r :: rs, s, h => by
    simp only [need] at h
    have e := oneN_take r cs n s (by omega)
    have o := oneN_I r cs s
    have o1 := o.at_; have o2 := o.lim
    simp only [inRow]
    rw [e, inRow_take cs n rs _ (by omega)]
theorem last_at {L : List D} {x : D} : (L ++ [x])[L.length]? = some x := get_mid L [] x
theorem last_set {L : List D} {x y : D} : (L ++ [x]).set L.length y = L ++ [y] := set_mid L [] x y
theorem law_ok (is : List Int) (his : is.length ≤ 63) : ∃ S', F_law [.scr is] [] = .ok (.bl true) S' := by
  show Good (ms_law (env0 17 [.scr is]) [])
  obtain ⟨st, hst, so⟩ := draws_ok is [] his
  unfold ms_law
  refine good_next (env2 := [.val (.scr is), .val (.ref 0), .none, .none, .none, .none, .none, .none, .none, .none, .none, .none, .none, .none, .none, .none, .none]) (S2 := [st]) (by simp only [q_mVar, q_mCst, q_oVal, q_oLoc, q_mOp2, q_bOf, q_bTru, q_bNot, q_bAnd, q_bOr, q_vAnd, q_vOr, q_vNot, q_mIte, q_mOr, q_aNil, q_aCons, q_aoNil, q_aoCons, q_mTup, q_nLst, q_iSeq, q_iSign, q_iR1, q_iR2, q_iEnumM, q_iRevM, q_iZipM, q_sNext, q_sSeq, q_sExpr, q_sRet, q_sRetN, q_sRetL, q_sIf, q_sSet, q_sSetN, q_sAsg, q_sFor, q_nLc, q_bYes, q_mCall, q_nCall, q_mMeth, q_mMeth0, q_mFld, q_mProp, q_nMake, q_pNone, q_pSome, q_mSl, q_mB, q_mRef, q_mMut, q_mMut0, q_mDGet, q_sPut, q_sFldP, q_sAug, q_mTx, q_mIsT, q_mInK, q_sRaise0, q_mExc, q_sTry, q_iScr, q_nDict, q_mNeg, q_mCallK, q_nCallK, Res.toS, Res.bind, Res.lift, Res.calm, resO, resL, CRes.toR, CRes.toN, CRes.toB, CRes.quiet, cellO, setE, setS, dLt, dLe, dGt, dGe, dAdd, iSub, dAddA, dEq, dNe, eqB, sEq, fInt, gNm, gTp, gsCons, gsNil, dTru, dIsN, dNotN, locAt, isLst, mutK, insC, List.getElem?_cons_zero, List.getElem?_cons_succ, List.set_cons_zero, List.set_cons_succ, List.length_cons, List.length_nil, List.length_set, Option.map_some, Option.map_none, Option.bind_some, if_true, if_false, decide_eq_true_eq, decide_true, decide_false, Nat.zero_lt_succ, Nat.reduceLT, Nat.reduceAdd, and_true, true_and, and_self, Bool.false_eq_true, List.map_cons, List.map_nil, List.cons_append, List.nil_append, List.replicate_succ, List.replicate_zero, Nat.reduceSub, List.append_nil, reduceCtorEq, reduceIte, ne_eq, not_false_eq_true, not_true_eq_false, List.tail_cons, List.head?_cons, sz_le, sz_lt, Nat.reduceLeDiff, Nat.zero_le, ok62_int, Int.reduceLE, Int.reduceNeg, Int.reduceToNat, Bool.and_self, Int.reduceLT, Int.natCast_zero, Int.cast_ofNat_Int, env0, hst]) ?_
  obtain ⟨v1, st1, t1, so1, v1p, v1l, _⟩ := take_ok [] 16 so (by omega) (lt_big (by decide))
  refine good_next (env2 := [.val (.scr is), .val (.ref 0), .val (.bl (decide (v1 = 0))), .none, .none, .none, .none, .none, .none, .none, .none, .none, .none, .none, .none, .none, .none]) (S2 := [st1]) (by simp only [q_mVar, q_mCst, q_oVal, q_oLoc, q_mOp2, q_bOf, q_bTru, q_bNot, q_bAnd, q_bOr, q_vAnd, q_vOr, q_vNot, q_mIte, q_mOr, q_aNil, q_aCons, q_aoNil, q_aoCons, q_mTup, q_nLst, q_iSeq, q_iSign, q_iR1, q_iR2, q_iEnumM, q_iRevM, q_iZipM, q_sNext, q_sSeq, q_sExpr, q_sRet, q_sRetN, q_sRetL, q_sIf, q_sSet, q_sSetN, q_sAsg, q_sFor, q_nLc, q_bYes, q_mCall, q_nCall, q_mMeth, q_mMeth0, q_mFld, q_mProp, q_nMake, q_pNone, q_pSome, q_mSl, q_mB, q_mRef, q_mMut, q_mMut0, q_mDGet, q_sPut, q_sFldP, q_sAug, q_mTx, q_mIsT, q_mInK, q_sRaise0, q_mExc, q_sTry, q_iScr, q_nDict, q_mNeg, q_mCallK, q_nCallK, Res.toS, Res.bind, Res.lift, Res.calm, resO, resL, CRes.toR, CRes.toN, CRes.toB, CRes.quiet, cellO, setE, setS, dLt, dLe, dGt, dGe, dAdd, iSub, dAddA, dEq, dNe, eqB, sEq, fInt, gNm, gTp, gsCons, gsNil, dTru, dIsN, dNotN, locAt, isLst, mutK, insC, List.getElem?_cons_zero, List.getElem?_cons_succ, List.set_cons_zero, List.set_cons_succ, List.length_cons, List.length_nil, List.length_set, Option.map_some, Option.map_none, Option.bind_some, if_true, if_false, decide_eq_true_eq, decide_true, decide_false, Nat.zero_lt_succ, Nat.reduceLT, Nat.reduceAdd, and_true, true_and, and_self, Bool.false_eq_true, List.map_cons, List.map_nil, List.cons_append, List.nil_append, List.replicate_succ, List.replicate_zero, Nat.reduceSub, List.append_nil, reduceCtorEq, reduceIte, ne_eq, not_false_eq_true, not_true_eq_false, List.tail_cons, List.head?_cons, sz_le, sz_lt, Nat.reduceLeDiff, Nat.zero_le, ok62_int, Int.reduceLE, Int.reduceNeg, Int.reduceToNat, Bool.and_self, Int.reduceLT, Int.natCast_zero, Int.cast_ofNat_Int, t1]) ?_
  generalize decide (v1 = 0) = large
  refine good_next (env2 := [.val (.scr is), .val (.ref 0), .val (.bl large), .loc (.lst []), .none, .none, .none, .none, .none, .none, .none, .none, .none, .none, .none, .none, .none]) (S2 := [st1]) (by simp only [q_mVar, q_mCst, q_oVal, q_oLoc, q_mOp2, q_bOf, q_bTru, q_bNot, q_bAnd, q_bOr, q_vAnd, q_vOr, q_vNot, q_mIte, q_mOr, q_aNil, q_aCons, q_aoNil, q_aoCons, q_mTup, q_nLst, q_iSeq, q_iSign, q_iR1, q_iR2, q_iEnumM, q_iRevM, q_iZipM, q_sNext, q_sSeq, q_sExpr, q_sRet, q_sRetN, q_sRetL, q_sIf, q_sSet, q_sSetN, q_sAsg, q_sFor, q_nLc, q_bYes, q_mCall, q_nCall, q_mMeth, q_mMeth0, q_mFld, q_mProp, q_nMake, q_pNone, q_pSome, q_mSl, q_mB, q_mRef, q_mMut, q_mMut0, q_mDGet, q_sPut, q_sFldP, q_sAug, q_mTx, q_mIsT, q_mInK, q_sRaise0, q_mExc, q_sTry, q_iScr, q_nDict, q_mNeg, q_mCallK, q_nCallK, Res.toS, Res.bind, Res.lift, Res.calm, resO, resL, CRes.toR, CRes.toN, CRes.toB, CRes.quiet, cellO, setE, setS, dLt, dLe, dGt, dGe, dAdd, iSub, dAddA, dEq, dNe, eqB, sEq, fInt, gNm, gTp, gsCons, gsNil, dTru, dIsN, dNotN, locAt, isLst, mutK, insC, List.getElem?_cons_zero, List.getElem?_cons_succ, List.set_cons_zero, List.set_cons_succ, List.length_cons, List.length_nil, List.length_set, Option.map_some, Option.map_none, Option.bind_some, if_true, if_false, decide_eq_true_eq, decide_true, decide_false, Nat.zero_lt_succ, Nat.reduceLT, Nat.reduceAdd, and_true, true_and, and_self, Bool.false_eq_true, List.map_cons, List.map_nil, List.cons_append, List.nil_append, List.replicate_succ, List.replicate_zero, Nat.reduceSub, List.append_nil, reduceCtorEq, reduceIte, ne_eq, not_false_eq_true, not_true_eq_false, List.tail_cons, List.head?_cons, sz_le, sz_lt, Nat.reduceLeDiff, Nat.zero_le, ok62_int, Int.reduceLE, Int.reduceNeg, Int.reduceToNat, Bool.and_self, Int.reduceLT, Int.natCast_zero, Int.cast_ofNat_Int]) ?_
  -- the plans
  obtain ⟨v2, st2, t2, so2, v2p, v2l, _⟩ := take_ok [] 3 so1 (by omega) (lt_big (by decide))
  have v2l := v2l (by decide)
  clear t1 hst so so1
  refine good_seq ?_
  suffices hA : ∃ (rs : List Rows) (st3 : D) (x4 x13 : Vf.Slot), (sFor _ _ _ _ _ : SRes) = .next [.val (.scr is), .val (.ref 0), .val (.bl large), .loc (.lst (rs.map rowsD)), x4, .none, .none, .none, .none, .none, .none, .none, .none, x13, .none, .none, .none] [st3] ∧ SOk 3000 st3 ∧ PsOk rs ∧ rs ≠ [] ∧ rs.length ≤ 3 by
    obtain ⟨rs, st3, x4, x13, hA, so3, ps, ne, lrs⟩ := hA
    refine ⟨_, _, hA, ?_⟩
    clear hA t2 so2
    -- two plans may be the same
    obtain ⟨rs, st3, so3, ps, ne, lrs, hB⟩ : ∃ (rs' : List Rows) (st4 : D), SOk 3001 st4 ∧ PsOk rs' ∧ rs' ≠ [] ∧ rs'.length ≤ 3 ∧ (sIf (bAnd (bOf (mOp2 dGt (oVal (mB fLen (aoCons (oLoc 3) aoNil))) (oVal (mCst (.int 1))))) (bOf (mOp2 dEq (oVal (mCall 2 F_law_take (aCons (mVar 1) (aCons (mCst (.int 5)) aNil)))) (oVal (mCst (.int 0)))))) (sPut (oLoc 3) (mCst (.int 1)) (mOp2 dIx (oLoc 3) (oVal (mCst (.int 0))))) sNext) [.val (.scr is), .val (.ref 0), .val (.bl large), .loc (.lst (rs.map rowsD)), x4, .none, .none, .none, .none, .none, .none, .none, .none, x13, .none, .none, .none] [st3] = .next [.val (.scr is), .val (.ref 0), .val (.bl large), .loc (.lst (rs'.map rowsD)), x4, .none, .none, .none, .none, .none, .none, .none, .none, x13, .none, .none, .none] [st4] := by
      obtain ⟨v, st4, t1, so4, vp, vl, _⟩ := take_ok [] 5 so3 (by omega) (lt_big (by decide))
      match rs, ps, ne, lrs with
      | [], _, ne, _ => exact absurd rfl ne
      | [r0], ps, ne, lrs =>
        exact ⟨[r0], st3, so3.mono (by omega), ps, ne, lrs, by simp only [q_mVar, q_mCst, q_oVal, q_oLoc, q_mOp2, q_bOf, q_bTru, q_bNot, q_bAnd, q_bOr, q_vAnd, q_vOr, q_vNot, q_mIte, q_mOr, q_aNil, q_aCons, q_aoNil, q_aoCons, q_mTup, q_nLst, q_iSeq, q_iSign, q_iR1, q_iR2, q_iEnumM, q_iRevM, q_iZipM, q_sNext, q_sSeq, q_sExpr, q_sRet, q_sRetN, q_sRetL, q_sIf, q_sSet, q_sSetN, q_sAsg, q_sFor, q_nLc, q_bYes, q_mCall, q_nCall, q_mMeth, q_mMeth0, q_mFld, q_mProp, q_nMake, q_pNone, q_pSome, q_mSl, q_mB, q_mRef, q_mMut, q_mMut0, q_mDGet, q_sPut, q_sFldP, q_sAug, q_mTx, q_mIsT, q_mInK, q_sRaise0, q_mExc, q_sTry, q_iScr, q_nDict, q_mNeg, q_mCallK, q_nCallK, Res.toS, Res.bind, Res.lift, Res.calm, resO, resL, CRes.toR, CRes.toN, CRes.toB, CRes.quiet, cellO, setE, setS, dLt, dLe, dGt, dGe, dAdd, iSub, dAddA, dEq, dNe, eqB, sEq, fInt, gNm, gTp, gsCons, gsNil, dTru, dIsN, dNotN, locAt, isLst, mutK, insC, List.getElem?_cons_zero, List.getElem?_cons_succ, List.set_cons_zero, List.set_cons_succ, List.length_cons, List.length_nil, List.length_set, Option.map_some, Option.map_none, Option.bind_some, if_true, if_false, decide_eq_true_eq, decide_true, decide_false, Nat.zero_lt_succ, Nat.reduceLT, Nat.reduceAdd, and_true, true_and, and_self, Bool.false_eq_true, List.map_cons, List.map_nil, List.cons_append, List.nil_append, List.replicate_succ, List.replicate_zero, Nat.reduceSub, List.append_nil, reduceCtorEq, reduceIte, ne_eq, not_false_eq_true, not_true_eq_false, List.tail_cons, List.head?_cons, sz_le, sz_lt, Nat.reduceLeDiff, Nat.zero_le, ok62_int, Int.reduceLE, Int.reduceNeg, Int.reduceToNat, Bool.and_self, Int.reduceLT, Int.natCast_zero, Int.cast_ofNat_Int, len_lst]⟩
      | r0 :: r1 :: tl, ps, ne, lrs =>
        have c1 : (1 : Int) < (((tl.map rowsD).length + 1 + 1 : Nat) : Int) := by omega
        by_cases c2 : v = 0
        · have e1 := ix_L (xs := (r0 :: r1 :: tl).map rowsD) (i := 0) (x := rowsD r0) (by omega) rfl
          have e2 := put_L (xs := (r0 :: r1 :: tl).map rowsD) (i := 1) (v := rowsD r0) (by omega) (by simp)
          have e3 : ((r0 :: r1 :: tl).map rowsD).set (1 : Int).toNat (rowsD r0) = (r0 :: r0 :: tl).map rowsD := rfl
          rw [e3] at e2
          simp only [List.map_cons] at e1 e2
          refine ⟨r0 :: r0 :: tl, st4, so4, ⟨fun r hr => ?_, fun r hr => ?_⟩, by simp, by simpa using lrs, by simp only [q_mVar, q_mCst, q_oVal, q_oLoc, q_mOp2, q_bOf, q_bTru, q_bNot, q_bAnd, q_bOr, q_vAnd, q_vOr, q_vNot, q_mIte, q_mOr, q_aNil, q_aCons, q_aoNil, q_aoCons, q_mTup, q_nLst, q_iSeq, q_iSign, q_iR1, q_iR2, q_iEnumM, q_iRevM, q_iZipM, q_sNext, q_sSeq, q_sExpr, q_sRet, q_sRetN, q_sRetL, q_sIf, q_sSet, q_sSetN, q_sAsg, q_sFor, q_nLc, q_bYes, q_mCall, q_nCall, q_mMeth, q_mMeth0, q_mFld, q_mProp, q_nMake, q_pNone, q_pSome, q_mSl, q_mB, q_mRef, q_mMut, q_mMut0, q_mDGet, q_sPut, q_sFldP, q_sAug, q_mTx, q_mIsT, q_mInK, q_sRaise0, q_mExc, q_sTry, q_iScr, q_nDict, q_mNeg, q_mCallK, q_nCallK, Res.toS, Res.bind, Res.lift, Res.calm, resO, resL, CRes.toR, CRes.toN, CRes.toB, CRes.quiet, cellO, setE, setS, dLt, dLe, dGt, dGe, dAdd, iSub, dAddA, dEq, dNe, eqB, sEq, fInt, gNm, gTp, gsCons, gsNil, dTru, dIsN, dNotN, locAt, isLst, mutK, insC, List.getElem?_cons_zero, List.getElem?_cons_succ, List.set_cons_zero, List.set_cons_succ, List.length_cons, List.length_nil, List.length_set, Option.map_some, Option.map_none, Option.bind_some, if_true, if_false, decide_eq_true_eq, decide_true, decide_false, Nat.zero_lt_succ, Nat.reduceLT, Nat.reduceAdd, and_true, true_and, and_self, Bool.false_eq_true, List.map_cons, List.map_nil, List.cons_append, List.nil_append, List.replicate_succ, List.replicate_zero, Nat.reduceSub, List.append_nil, reduceCtorEq, reduceIte, ne_eq, not_false_eq_true, not_true_eq_false, List.tail_cons, List.head?_cons, sz_le, sz_lt, Nat.reduceLeDiff, Nat.zero_le, ok62_int, Int.reduceLE, Int.reduceNeg, Int.reduceToNat, Bool.and_self, Int.reduceLT, Int.natCast_zero, Int.cast_ofNat_Int, len_lst, t1, c1, c2, e1, e2]⟩
          · rcases List.mem_cons.mp hr with h | h
            · rw [h]; exact ps.ok r0 (by simp)
            · rcases List.mem_cons.mp h with h | h
              · rw [h]; exact ps.ok r0 (by simp)
              · exact ps.ok r (by simp [h])
          · rcases List.mem_cons.mp hr with h | h
            · rw [h]; exact ps.len r0 (by simp)
            · rcases List.mem_cons.mp h with h | h
              · rw [h]; exact ps.len r0 (by simp)
              · exact ps.len r (by simp [h])
        · exact ⟨r0 :: r1 :: tl, st4, so4, ps, ne, lrs, by simp only [q_mVar, q_mCst, q_oVal, q_oLoc, q_mOp2, q_bOf, q_bTru, q_bNot, q_bAnd, q_bOr, q_vAnd, q_vOr, q_vNot, q_mIte, q_mOr, q_aNil, q_aCons, q_aoNil, q_aoCons, q_mTup, q_nLst, q_iSeq, q_iSign, q_iR1, q_iR2, q_iEnumM, q_iRevM, q_iZipM, q_sNext, q_sSeq, q_sExpr, q_sRet, q_sRetN, q_sRetL, q_sIf, q_sSet, q_sSetN, q_sAsg, q_sFor, q_nLc, q_bYes, q_mCall, q_nCall, q_mMeth, q_mMeth0, q_mFld, q_mProp, q_nMake, q_pNone, q_pSome, q_mSl, q_mB, q_mRef, q_mMut, q_mMut0, q_mDGet, q_sPut, q_sFldP, q_sAug, q_mTx, q_mIsT, q_mInK, q_sRaise0, q_mExc, q_sTry, q_iScr, q_nDict, q_mNeg, q_mCallK, q_nCallK, Res.toS, Res.bind, Res.lift, Res.calm, resO, resL, CRes.toR, CRes.toN, CRes.toB, CRes.quiet, cellO, setE, setS, dLt, dLe, dGt, dGe, dAdd, iSub, dAddA, dEq, dNe, eqB, sEq, fInt, gNm, gTp, gsCons, gsNil, dTru, dIsN, dNotN, locAt, isLst, mutK, insC, List.getElem?_cons_zero, List.getElem?_cons_succ, List.set_cons_zero, List.set_cons_succ, List.length_cons, List.length_nil, List.length_set, Option.map_some, Option.map_none, Option.bind_some, if_true, if_false, decide_eq_true_eq, decide_true, decide_false, Nat.zero_lt_succ, Nat.reduceLT, Nat.reduceAdd, and_true, true_and, and_self, Bool.false_eq_true, List.map_cons, List.map_nil, List.cons_append, List.nil_append, List.replicate_succ, List.replicate_zero, Nat.reduceSub, List.append_nil, reduceCtorEq, reduceIte, ne_eq, not_false_eq_true, not_true_eq_false, List.tail_cons, List.head?_cons, sz_le, sz_lt, Nat.reduceLeDiff, Nat.zero_le, ok62_int, Int.reduceLE, Int.reduceNeg, Int.reduceToNat, Bool.and_self, Int.reduceLT, Int.natCast_zero, Int.cast_ofNat_Int, len_lst, t1, c1, c2]⟩
    refine good_next hB ?_
    clear hB
    have nd : need rs ≤ 36 := by
      have : ∀ l : List Rows, (∀ r ∈ l, r.length ≤ 12) → need l ≤ 12 * l.length := by
        intro l
        induction l with
        | nil => intro _; simp [need]
        | cons r l ih => intro h; have := ih fun x hx => h x (List.mem_cons_of_mem _ hx); have := h r (List.mem_cons_self ..); simp only [need, List.length_cons]; omega
      have := this rs ps.len
      omega
    -- need
    have lc := lc_pureT (g := gNm 16) (vs := [16]) (m := mB fLen (aoCons (oLoc 16) aoNil)) (f := rowsD) (h := fun r => .int (r.length : Int)) (xs := rs) (env := [.val (.scr is), .val (.ref 0), .val (.bl large), .val (.lst (rs.map rowsD)), x4, .none, .none, .none, .none, .none, .none, .none, .none, x13, .none, .none, .none]) (S := [st3]) (by omega) fun x hx => ⟨_, _, rfl, by simp only [q_mVar, q_mCst, q_oVal, q_oLoc, q_mOp2, q_bOf, q_bTru, q_bNot, q_bAnd, q_bOr, q_vAnd, q_vOr, q_vNot, q_mIte, q_mOr, q_aNil, q_aCons, q_aoNil, q_aoCons, q_mTup, q_nLst, q_iSeq, q_iSign, q_iR1, q_iR2, q_iEnumM, q_iRevM, q_iZipM, q_sNext, q_sSeq, q_sExpr, q_sRet, q_sRetN, q_sRetL, q_sIf, q_sSet, q_sSetN, q_sAsg, q_sFor, q_nLc, q_bYes, q_mCall, q_nCall, q_mMeth, q_mMeth0, q_mFld, q_mProp, q_nMake, q_pNone, q_pSome, q_mSl, q_mB, q_mRef, q_mMut, q_mMut0, q_mDGet, q_sPut, q_sFldP, q_sAug, q_mTx, q_mIsT, q_mInK, q_sRaise0, q_mExc, q_sTry, q_iScr, q_nDict, q_mNeg, q_mCallK, q_nCallK, Res.toS, Res.bind, Res.lift, Res.calm, resO, resL, CRes.toR, CRes.toN, CRes.toB, CRes.quiet, cellO, setE, setS, dLt, dLe, dGt, dGe, dAdd, iSub, dAddA, dEq, dNe, eqB, sEq, fInt, gNm, gTp, gsCons, gsNil, dTru, dIsN, dNotN, locAt, isLst, mutK, insC, List.getElem?_cons_zero, List.getElem?_cons_succ, List.set_cons_zero, List.set_cons_succ, List.length_cons, List.length_nil, List.length_set, Option.map_some, Option.map_none, Option.bind_some, if_true, if_false, decide_eq_true_eq, decide_true, decide_false, Nat.zero_lt_succ, Nat.reduceLT, Nat.reduceAdd, and_true, true_and, and_self, Bool.false_eq_true, List.map_cons, List.map_nil, List.cons_append, List.nil_append, List.replicate_succ, List.replicate_zero, Nat.reduceSub, List.append_nil, reduceCtorEq, reduceIte, ne_eq, not_false_eq_true, not_true_eq_false, List.tail_cons, List.head?_cons, sz_le, sz_lt, Nat.reduceLeDiff, Nat.zero_le, ok62_int, Int.reduceLE, Int.reduceNeg, Int.reduceToNat, Bool.and_self, Int.reduceLT, Int.natCast_zero, Int.cast_ofNat_Int, len_lst, List.length_map] <;> rfl, by simp only [q_mVar, q_mCst, q_oVal, q_oLoc, q_mOp2, q_bOf, q_bTru, q_bNot, q_bAnd, q_bOr, q_vAnd, q_vOr, q_vNot, q_mIte, q_mOr, q_aNil, q_aCons, q_aoNil, q_aoCons, q_mTup, q_nLst, q_iSeq, q_iSign, q_iR1, q_iR2, q_iEnumM, q_iRevM, q_iZipM, q_sNext, q_sSeq, q_sExpr, q_sRet, q_sRetN, q_sRetL, q_sIf, q_sSet, q_sSetN, q_sAsg, q_sFor, q_nLc, q_bYes, q_mCall, q_nCall, q_mMeth, q_mMeth0, q_mFld, q_mProp, q_nMake, q_pNone, q_pSome, q_mSl, q_mB, q_mRef, q_mMut, q_mMut0, q_mDGet, q_sPut, q_sFldP, q_sAug, q_mTx, q_mIsT, q_mInK, q_sRaise0, q_mExc, q_sTry, q_iScr, q_nDict, q_mNeg, q_mCallK, q_nCallK, Res.toS, Res.bind, Res.lift, Res.calm, resO, resL, CRes.toR, CRes.toN, CRes.toB, CRes.quiet, cellO, setE, setS, dLt, dLe, dGt, dGe, dAdd, iSub, dAddA, dEq, dNe, eqB, sEq, fInt, gNm, gTp, gsCons, gsNil, dTru, dIsN, dNotN, locAt, isLst, mutK, insC, List.getElem?_cons_zero, List.getElem?_cons_succ, List.set_cons_zero, List.set_cons_succ, List.length_cons, List.length_nil, List.length_set, Option.map_some, Option.map_none, Option.bind_some, if_true, if_false, decide_eq_true_eq, decide_true, decide_false, Nat.zero_lt_succ, Nat.reduceLT, Nat.reduceAdd, and_true, true_and, and_self, Bool.false_eq_true, List.map_cons, List.map_nil, List.cons_append, List.nil_append, List.replicate_succ, List.replicate_zero, Nat.reduceSub, List.append_nil, reduceCtorEq, reduceIte, ne_eq, not_false_eq_true, not_true_eq_false, List.tail_cons, List.head?_cons, sz_le, sz_lt, Nat.reduceLeDiff, Nat.zero_le, ok62_int, Int.reduceLE, Int.reduceNeg, Int.reduceToNat, Bool.and_self, Int.reduceLT, Int.natCast_zero, Int.cast_ofNat_Int, wipeE]⟩
    have hs := sum_ints (xs := rs) (f := fun r => (r.length : Int))
    rw [need_sum] at hs
    refine good_next (env2 := [.val (.scr is), .val (.ref 0), .val (.bl large), .val (.lst (rs.map rowsD)), x4, .val (.int (need rs : Nat)), .none, .none, .none, .none, .none, .none, .none, x13, .none, .none, .none]) (S2 := [st3]) (by simp only [q_mVar, q_mCst, q_oVal, q_oLoc, q_mOp2, q_bOf, q_bTru, q_bNot, q_bAnd, q_bOr, q_vAnd, q_vOr, q_vNot, q_mIte, q_mOr, q_aNil, q_aCons, q_aoNil, q_aoCons, q_mTup, q_nLst, q_iSeq, q_iSign, q_iR1, q_iR2, q_iEnumM, q_iRevM, q_iZipM, q_sNext, q_sSeq, q_sExpr, q_sRet, q_sRetN, q_sRetL, q_sIf, q_sSet, q_sSetN, q_sAsg, q_sFor, q_nLc, q_bYes, q_mCall, q_nCall, q_mMeth, q_mMeth0, q_mFld, q_mProp, q_nMake, q_pNone, q_pSome, q_mSl, q_mB, q_mRef, q_mMut, q_mMut0, q_mDGet, q_sPut, q_sFldP, q_sAug, q_mTx, q_mIsT, q_mInK, q_sRaise0, q_mExc, q_sTry, q_iScr, q_nDict, q_mNeg, q_mCallK, q_nCallK, Res.toS, Res.bind, Res.lift, Res.calm, resO, resL, CRes.toR, CRes.toN, CRes.toB, CRes.quiet, cellO, setE, setS, dLt, dLe, dGt, dGe, dAdd, iSub, dAddA, dEq, dNe, eqB, sEq, fInt, gNm, gTp, gsCons, gsNil, dTru, dIsN, dNotN, locAt, isLst, mutK, insC, List.getElem?_cons_zero, List.getElem?_cons_succ, List.set_cons_zero, List.set_cons_succ, List.length_cons, List.length_nil, List.length_set, Option.map_some, Option.map_none, Option.bind_some, if_true, if_false, decide_eq_true_eq, decide_true, decide_false, Nat.zero_lt_succ, Nat.reduceLT, Nat.reduceAdd, and_true, true_and, and_self, Bool.false_eq_true, List.map_cons, List.map_nil, List.cons_append, List.nil_append, List.replicate_succ, List.replicate_zero, Nat.reduceSub, List.append_nil, reduceCtorEq, reduceIte, ne_eq, not_false_eq_true, not_true_eq_false, List.tail_cons, List.head?_cons, sz_le, sz_lt, Nat.reduceLeDiff, Nat.zero_le, ok62_int, Int.reduceLE, Int.reduceNeg, Int.reduceToNat, Bool.and_self, Int.reduceLT, Int.natCast_zero, Int.cast_ofNat_Int, okVs, wipeE, List.all_cons, List.all_nil, Bool.and_true, lc, backE, hs]) ?_
    clear lc hs
    -- the things
    obtain ⟨v, st4, t1, so4, vp, vl, _⟩ := take_ok [] 5 so3 (by omega) (lt_big (by decide))
    have vl := vl (by decide)
    obtain ⟨vn, rfl⟩ : ∃ m : Nat, v = (m : Int) := ⟨v.toNat, by omega⟩
    obtain ⟨cs, st5, u1, so5, cl, cg⟩ := things_ok [] (need rs + vn) so4 (by omega) (by omega)
    rw [Int.natCast_add] at u1
    refine good_next (env2 := [.val (.scr is), .val (.ref 0), .val (.bl large), .val (.lst (rs.map rowsD)), x4, .val (.int (need rs : Nat)), .val (strS cs), .none, .none, .none, .none, .none, .none, x13, .none, .none, .none]) (S2 := [st5]) (by simp only [q_mVar, q_mCst, q_oVal, q_oLoc, q_mOp2, q_bOf, q_bTru, q_bNot, q_bAnd, q_bOr, q_vAnd, q_vOr, q_vNot, q_mIte, q_mOr, q_aNil, q_aCons, q_aoNil, q_aoCons, q_mTup, q_nLst, q_iSeq, q_iSign, q_iR1, q_iR2, q_iEnumM, q_iRevM, q_iZipM, q_sNext, q_sSeq, q_sExpr, q_sRet, q_sRetN, q_sRetL, q_sIf, q_sSet, q_sSetN, q_sAsg, q_sFor, q_nLc, q_bYes, q_mCall, q_nCall, q_mMeth, q_mMeth0, q_mFld, q_mProp, q_nMake, q_pNone, q_pSome, q_mSl, q_mB, q_mRef, q_mMut, q_mMut0, q_mDGet, q_sPut, q_sFldP, q_sAug, q_mTx, q_mIsT, q_mInK, q_sRaise0, q_mExc, q_sTry, q_iScr, q_nDict, q_mNeg, q_mCallK, q_nCallK, Res.toS, Res.bind, Res.lift, Res.calm, resO, resL, CRes.toR, CRes.toN, CRes.toB, CRes.quiet, cellO, setE, setS, dLt, dLe, dGt, dGe, dAdd, iSub, dAddA, dEq, dNe, eqB, sEq, fInt, gNm, gTp, gsCons, gsNil, dTru, dIsN, dNotN, locAt, isLst, mutK, insC, List.getElem?_cons_zero, List.getElem?_cons_succ, List.set_cons_zero, List.set_cons_succ, List.length_cons, List.length_nil, List.length_set, Option.map_some, Option.map_none, Option.bind_some, if_true, if_false, decide_eq_true_eq, decide_true, decide_false, Nat.zero_lt_succ, Nat.reduceLT, Nat.reduceAdd, and_true, true_and, and_self, Bool.false_eq_true, List.map_cons, List.map_nil, List.cons_append, List.nil_append, List.replicate_succ, List.replicate_zero, Nat.reduceSub, List.append_nil, reduceCtorEq, reduceIte, ne_eq, not_false_eq_true, not_true_eq_false, List.tail_cons, List.head?_cons, sz_le, sz_lt, Nat.reduceLeDiff, Nat.zero_le, ok62_int, Int.reduceLE, Int.reduceNeg, Int.reduceToNat, Bool.and_self, Int.reduceLT, Int.natCast_zero, Int.cast_ofNat_Int, t1, u1]) ?_
    clear t1 u1
    have hn : need rs ≤ cs.length := by omega
    have hc : cs.length ≤ 1000 := by omega
    have so5 := so5.mono (m := 4000) (by omega)
    clear so4 so3 cg
    -- the plans made
    have lc := lc_pureT (g := gNm 16) (vs := [16]) (m := nMake 1 F_Plan_init (aCons (nLc (iSeq (mVar 16)) (gNm 12) [12] bYes (mB fList (aoCons (oLoc 12) aoNil))) aNil)) (f := rowsD) (h := pl) (xs := rs) (env := [.val (.scr is), .val (.ref 0), .val (.bl large), .val (.lst (rs.map rowsD)), x4, .val (.int (need rs : Nat)), .val (strS cs), .none, .none, .none, .none, .none, .none, x13, .none, .none, .none]) (S := [st5]) (by omega) fun x hx => by
      have hx12 := ps.len x hx
      have i1 := init_ok x (ps.ok x hx) hx12 [st5]
      have lc2 := lc_pureT (g := gNm 12) (vs := [12]) (m := mB fList (aoCons (oLoc 12) aoNil)) (f := rowD) (h := rowD) (xs := x) (env := [.val (.scr is), .val (.ref 0), .val (.bl large), .val (.lst (rs.map rowsD)), x4, .val (.int (need rs : Nat)), .val (strS cs), .none, .none, .none, .none, .none, .none, x13, .none, .none, .val (rowsD x)]) (S := [st5]) (by omega) fun y hy => ⟨_, _, rfl, by simp only [q_mVar, q_mCst, q_oVal, q_oLoc, q_mOp2, q_bOf, q_bTru, q_bNot, q_bAnd, q_bOr, q_vAnd, q_vOr, q_vNot, q_mIte, q_mOr, q_aNil, q_aCons, q_aoNil, q_aoCons, q_mTup, q_nLst, q_iSeq, q_iSign, q_iR1, q_iR2, q_iEnumM, q_iRevM, q_iZipM, q_sNext, q_sSeq, q_sExpr, q_sRet, q_sRetN, q_sRetL, q_sIf, q_sSet, q_sSetN, q_sAsg, q_sFor, q_nLc, q_bYes, q_mCall, q_nCall, q_mMeth, q_mMeth0, q_mFld, q_mProp, q_nMake, q_pNone, q_pSome, q_mSl, q_mB, q_mRef, q_mMut, q_mMut0, q_mDGet, q_sPut, q_sFldP, q_sAug, q_mTx, q_mIsT, q_mInK, q_sRaise0, q_mExc, q_sTry, q_iScr, q_nDict, q_mNeg, q_mCallK, q_nCallK, Res.toS, Res.bind, Res.lift, Res.calm, resO, resL, CRes.toR, CRes.toN, CRes.toB, CRes.quiet, cellO, setE, setS, dLt, dLe, dGt, dGe, dAdd, iSub, dAddA, dEq, dNe, eqB, sEq, fInt, gNm, gTp, gsCons, gsNil, dTru, dIsN, dNotN, locAt, isLst, mutK, insC, List.getElem?_cons_zero, List.getElem?_cons_succ, List.set_cons_zero, List.set_cons_succ, List.length_cons, List.length_nil, List.length_set, Option.map_some, Option.map_none, Option.bind_some, if_true, if_false, decide_eq_true_eq, decide_true, decide_false, Nat.zero_lt_succ, Nat.reduceLT, Nat.reduceAdd, and_true, true_and, and_self, Bool.false_eq_true, List.map_cons, List.map_nil, List.cons_append, List.nil_append, List.replicate_succ, List.replicate_zero, Nat.reduceSub, List.append_nil, reduceCtorEq, reduceIte, ne_eq, not_false_eq_true, not_true_eq_false, List.tail_cons, List.head?_cons, sz_le, sz_lt, Nat.reduceLeDiff, Nat.zero_le, ok62_int, Int.reduceLE, Int.reduceNeg, Int.reduceToNat, Bool.and_self, Int.reduceLT, Int.natCast_zero, Int.cast_ofNat_Int, fList_lst] <;> rfl, by simp only [q_mVar, q_mCst, q_oVal, q_oLoc, q_mOp2, q_bOf, q_bTru, q_bNot, q_bAnd, q_bOr, q_vAnd, q_vOr, q_vNot, q_mIte, q_mOr, q_aNil, q_aCons, q_aoNil, q_aoCons, q_mTup, q_nLst, q_iSeq, q_iSign, q_iR1, q_iR2, q_iEnumM, q_iRevM, q_iZipM, q_sNext, q_sSeq, q_sExpr, q_sRet, q_sRetN, q_sRetL, q_sIf, q_sSet, q_sSetN, q_sAsg, q_sFor, q_nLc, q_bYes, q_mCall, q_nCall, q_mMeth, q_mMeth0, q_mFld, q_mProp, q_nMake, q_pNone, q_pSome, q_mSl, q_mB, q_mRef, q_mMut, q_mMut0, q_mDGet, q_sPut, q_sFldP, q_sAug, q_mTx, q_mIsT, q_mInK, q_sRaise0, q_mExc, q_sTry, q_iScr, q_nDict, q_mNeg, q_mCallK, q_nCallK, Res.toS, Res.bind, Res.lift, Res.calm, resO, resL, CRes.toR, CRes.toN, CRes.toB, CRes.quiet, cellO, setE, setS, dLt, dLe, dGt, dGe, dAdd, iSub, dAddA, dEq, dNe, eqB, sEq, fInt, gNm, gTp, gsCons, gsNil, dTru, dIsN, dNotN, locAt, isLst, mutK, insC, List.getElem?_cons_zero, List.getElem?_cons_succ, List.set_cons_zero, List.set_cons_succ, List.length_cons, List.length_nil, List.length_set, Option.map_some, Option.map_none, Option.bind_some, if_true, if_false, decide_eq_true_eq, decide_true, decide_false, Nat.zero_lt_succ, Nat.reduceLT, Nat.reduceAdd, and_true, true_and, and_self, Bool.false_eq_true, List.map_cons, List.map_nil, List.cons_append, List.nil_append, List.replicate_succ, List.replicate_zero, Nat.reduceSub, List.append_nil, reduceCtorEq, reduceIte, ne_eq, not_false_eq_true, not_true_eq_false, List.tail_cons, List.head?_cons, sz_le, sz_lt, Nat.reduceLeDiff, Nat.zero_le, ok62_int, Int.reduceLE, Int.reduceNeg, Int.reduceToNat, Bool.and_self, Int.reduceLT, Int.natCast_zero, Int.cast_ofNat_Int, wipeE]⟩
      exact ⟨_, [.val (.scr is), .val (.ref 0), .val (.bl large), .val (.lst (rs.map rowsD)), x4, .val (.int (need rs : Nat)), .val (strS cs), .none, .none, .none, .none, .none, .none, x13, .none, .none, .val (rowsD x)], rfl, by simp only [q_mVar, q_mCst, q_oVal, q_oLoc, q_mOp2, q_bOf, q_bTru, q_bNot, q_bAnd, q_bOr, q_vAnd, q_vOr, q_vNot, q_mIte, q_mOr, q_aNil, q_aCons, q_aoNil, q_aoCons, q_mTup, q_nLst, q_iSeq, q_iSign, q_iR1, q_iR2, q_iEnumM, q_iRevM, q_iZipM, q_sNext, q_sSeq, q_sExpr, q_sRet, q_sRetN, q_sRetL, q_sIf, q_sSet, q_sSetN, q_sAsg, q_sFor, q_nLc, q_bYes, q_mCall, q_nCall, q_mMeth, q_mMeth0, q_mFld, q_mProp, q_nMake, q_pNone, q_pSome, q_mSl, q_mB, q_mRef, q_mMut, q_mMut0, q_mDGet, q_sPut, q_sFldP, q_sAug, q_mTx, q_mIsT, q_mInK, q_sRaise0, q_mExc, q_sTry, q_iScr, q_nDict, q_mNeg, q_mCallK, q_nCallK, Res.toS, Res.bind, Res.lift, Res.calm, resO, resL, CRes.toR, CRes.toN, CRes.toB, CRes.quiet, cellO, setE, setS, dLt, dLe, dGt, dGe, dAdd, iSub, dAddA, dEq, dNe, eqB, sEq, fInt, gNm, gTp, gsCons, gsNil, dTru, dIsN, dNotN, locAt, isLst, mutK, insC, List.getElem?_cons_zero, List.getElem?_cons_succ, List.set_cons_zero, List.set_cons_succ, List.length_cons, List.length_nil, List.length_set, Option.map_some, Option.map_none, Option.bind_some, if_true, if_false, decide_eq_true_eq, decide_true, decide_false, Nat.zero_lt_succ, Nat.reduceLT, Nat.reduceAdd, and_true, true_and, and_self, Bool.false_eq_true, List.map_cons, List.map_nil, List.cons_append, List.nil_append, List.replicate_succ, List.replicate_zero, Nat.reduceSub, List.append_nil, reduceCtorEq, reduceIte, ne_eq, not_false_eq_true, not_true_eq_false, List.tail_cons, List.head?_cons, sz_le, sz_lt, Nat.reduceLeDiff, Nat.zero_le, ok62_int, Int.reduceLE, Int.reduceNeg, Int.reduceToNat, Bool.and_self, Int.reduceLT, Int.natCast_zero, Int.cast_ofNat_Int, okVs, wipeE, List.all_cons, List.all_nil, Bool.and_true, lc2, backE, i1], by simp only [q_mVar, q_mCst, q_oVal, q_oLoc, q_mOp2, q_bOf, q_bTru, q_bNot, q_bAnd, q_bOr, q_vAnd, q_vOr, q_vNot, q_mIte, q_mOr, q_aNil, q_aCons, q_aoNil, q_aoCons, q_mTup, q_nLst, q_iSeq, q_iSign, q_iR1, q_iR2, q_iEnumM, q_iRevM, q_iZipM, q_sNext, q_sSeq, q_sExpr, q_sRet, q_sRetN, q_sRetL, q_sIf, q_sSet, q_sSetN, q_sAsg, q_sFor, q_nLc, q_bYes, q_mCall, q_nCall, q_mMeth, q_mMeth0, q_mFld, q_mProp, q_nMake, q_pNone, q_pSome, q_mSl, q_mB, q_mRef, q_mMut, q_mMut0, q_mDGet, q_sPut, q_sFldP, q_sAug, q_mTx, q_mIsT, q_mInK, q_sRaise0, q_mExc, q_sTry, q_iScr, q_nDict, q_mNeg, q_mCallK, q_nCallK, Res.toS, Res.bind, Res.lift, Res.calm, resO, resL, CRes.toR, CRes.toN, CRes.toB, CRes.quiet, cellO, setE, setS, dLt, dLe, dGt, dGe, dAdd, iSub, dAddA, dEq, dNe, eqB, sEq, fInt, gNm, gTp, gsCons, gsNil, dTru, dIsN, dNotN, locAt, isLst, mutK, insC, List.getElem?_cons_zero, List.getElem?_cons_succ, List.set_cons_zero, List.set_cons_succ, List.length_cons, List.length_nil, List.length_set, Option.map_some, Option.map_none, Option.bind_some, if_true, if_false, decide_eq_true_eq, decide_true, decide_false, Nat.zero_lt_succ, Nat.reduceLT, Nat.reduceAdd, and_true, true_and, and_self, Bool.false_eq_true, List.map_cons, List.map_nil, List.cons_append, List.nil_append, List.replicate_succ, List.replicate_zero, Nat.reduceSub, List.append_nil, reduceCtorEq, reduceIte, ne_eq, not_false_eq_true, not_true_eq_false, List.tail_cons, List.head?_cons, sz_le, sz_lt, Nat.reduceLeDiff, Nat.zero_le, ok62_int, Int.reduceLE, Int.reduceNeg, Int.reduceToNat, Bool.and_self, Int.reduceLT, Int.natCast_zero, Int.cast_ofNat_Int, wipeE]⟩
    refine good_next (env2 := [.val (.scr is), .val (.ref 0), .val (.bl large), .val (.lst (rs.map rowsD)), x4, .val (.int (need rs : Nat)), .val (strS cs), .loc (.lst (rs.map pl)), .none, .none, .none, .none, .none, x13, .none, .none, .none]) (S2 := [st5]) (by simp only [q_mVar, q_mCst, q_oVal, q_oLoc, q_mOp2, q_bOf, q_bTru, q_bNot, q_bAnd, q_bOr, q_vAnd, q_vOr, q_vNot, q_mIte, q_mOr, q_aNil, q_aCons, q_aoNil, q_aoCons, q_mTup, q_nLst, q_iSeq, q_iSign, q_iR1, q_iR2, q_iEnumM, q_iRevM, q_iZipM, q_sNext, q_sSeq, q_sExpr, q_sRet, q_sRetN, q_sRetL, q_sIf, q_sSet, q_sSetN, q_sAsg, q_sFor, q_nLc, q_bYes, q_mCall, q_nCall, q_mMeth, q_mMeth0, q_mFld, q_mProp, q_nMake, q_pNone, q_pSome, q_mSl, q_mB, q_mRef, q_mMut, q_mMut0, q_mDGet, q_sPut, q_sFldP, q_sAug, q_mTx, q_mIsT, q_mInK, q_sRaise0, q_mExc, q_sTry, q_iScr, q_nDict, q_mNeg, q_mCallK, q_nCallK, Res.toS, Res.bind, Res.lift, Res.calm, resO, resL, CRes.toR, CRes.toN, CRes.toB, CRes.quiet, cellO, setE, setS, dLt, dLe, dGt, dGe, dAdd, iSub, dAddA, dEq, dNe, eqB, sEq, fInt, gNm, gTp, gsCons, gsNil, dTru, dIsN, dNotN, locAt, isLst, mutK, insC, List.getElem?_cons_zero, List.getElem?_cons_succ, List.set_cons_zero, List.set_cons_succ, List.length_cons, List.length_nil, List.length_set, Option.map_some, Option.map_none, Option.bind_some, if_true, if_false, decide_eq_true_eq, decide_true, decide_false, Nat.zero_lt_succ, Nat.reduceLT, Nat.reduceAdd, and_true, true_and, and_self, Bool.false_eq_true, List.map_cons, List.map_nil, List.cons_append, List.nil_append, List.replicate_succ, List.replicate_zero, Nat.reduceSub, List.append_nil, reduceCtorEq, reduceIte, ne_eq, not_false_eq_true, not_true_eq_false, List.tail_cons, List.head?_cons, sz_le, sz_lt, Nat.reduceLeDiff, Nat.zero_le, ok62_int, Int.reduceLE, Int.reduceNeg, Int.reduceToNat, Bool.and_self, Int.reduceLT, Int.natCast_zero, Int.cast_ofNat_Int, okVs, wipeE, List.all_cons, List.all_nil, Bool.and_true, lc, backE]) ?_
    clear lc
    -- the same plan twice
    have hB : (sIf (bAnd (bOf (mOp2 dGt (oVal (mB fLen (aoCons (oLoc 3) aoNil))) (oVal (mCst (.int 1))))) (bOf (mOp2 dEq (oVal (mOp2 dIx (oLoc 3) (oVal (mCst (.int 1))))) (oVal (mOp2 dIx (oLoc 3) (oVal (mCst (.int 0)))))))) (sPut (oLoc 7) (mCst (.int 1)) (mOp2 dIx (oLoc 7) (oVal (mCst (.int 0))))) sNext) [.val (.scr is), .val (.ref 0), .val (.bl large), .val (.lst (rs.map rowsD)), x4, .val (.int (need rs : Nat)), .val (strS cs), .loc (.lst (rs.map pl)), .none, .none, .none, .none, .none, x13, .none, .none, .none] [st5] = .next [.val (.scr is), .val (.ref 0), .val (.bl large), .val (.lst (rs.map rowsD)), x4, .val (.int (need rs : Nat)), .val (strS cs), .loc (.lst (rs.map pl)), .none, .none, .none, .none, .none, x13, .none, .none, .none] [st5] := by
      match rs, ne with
      | [], ne => exact absurd rfl ne
      | [r0], ne => simp only [q_mVar, q_mCst, q_oVal, q_oLoc, q_mOp2, q_bOf, q_bTru, q_bNot, q_bAnd, q_bOr, q_vAnd, q_vOr, q_vNot, q_mIte, q_mOr, q_aNil, q_aCons, q_aoNil, q_aoCons, q_mTup, q_nLst, q_iSeq, q_iSign, q_iR1, q_iR2, q_iEnumM, q_iRevM, q_iZipM, q_sNext, q_sSeq, q_sExpr, q_sRet, q_sRetN, q_sRetL, q_sIf, q_sSet, q_sSetN, q_sAsg, q_sFor, q_nLc, q_bYes, q_mCall, q_nCall, q_mMeth, q_mMeth0, q_mFld, q_mProp, q_nMake, q_pNone, q_pSome, q_mSl, q_mB, q_mRef, q_mMut, q_mMut0, q_mDGet, q_sPut, q_sFldP, q_sAug, q_mTx, q_mIsT, q_mInK, q_sRaise0, q_mExc, q_sTry, q_iScr, q_nDict, q_mNeg, q_mCallK, q_nCallK, Res.toS, Res.bind, Res.lift, Res.calm, resO, resL, CRes.toR, CRes.toN, CRes.toB, CRes.quiet, cellO, setE, setS, dLt, dLe, dGt, dGe, dAdd, iSub, dAddA, dEq, dNe, eqB, sEq, fInt, gNm, gTp, gsCons, gsNil, dTru, dIsN, dNotN, locAt, isLst, mutK, insC, List.getElem?_cons_zero, List.getElem?_cons_succ, List.set_cons_zero, List.set_cons_succ, List.length_cons, List.length_nil, List.length_set, Option.map_some, Option.map_none, Option.bind_some, if_true, if_false, decide_eq_true_eq, decide_true, decide_false, Nat.zero_lt_succ, Nat.reduceLT, Nat.reduceAdd, and_true, true_and, and_self, Bool.false_eq_true, List.map_cons, List.map_nil, List.cons_append, List.nil_append, List.replicate_succ, List.replicate_zero, Nat.reduceSub, List.append_nil, reduceCtorEq, reduceIte, ne_eq, not_false_eq_true, not_true_eq_false, List.tail_cons, List.head?_cons, sz_le, sz_lt, Nat.reduceLeDiff, Nat.zero_le, ok62_int, Int.reduceLE, Int.reduceNeg, Int.reduceToNat, Bool.and_self, Int.reduceLT, Int.natCast_zero, Int.cast_ofNat_Int, len_lst]
      | r0 :: r1 :: tl, ne =>
        have c1 : (1 : Int) < (((tl.map rowsD).length + 1 + 1 : Nat) : Int) := by omega
        have e1 := ix_L (xs := (r0 :: r1 :: tl).map rowsD) (i := 0) (x := rowsD r0) (by omega) rfl
        have e2 := ix_L (xs := (r0 :: r1 :: tl).map rowsD) (i := 1) (x := rowsD r1) (by omega) rfl
        have e3 := ix_L (xs := (r0 :: r1 :: tl).map pl) (i := 0) (x := pl r0) (by omega) rfl
        have e4 := put_L (xs := (r0 :: r1 :: tl).map pl) (i := 1) (v := pl r0) (by omega) (by simp)
        obtain ⟨c, q1, q2⟩ := pEq_ok (rows_pl r1) (rows_pl r0) (rows_dep r1) (rows_dep r0)
        simp only [List.map_cons] at e1 e2 e3 e4
        cases c with
        | true =>
          have := rowsD_inj (q2.mp rfl)
          subst this
          have e5 : (pl r1 :: pl r1 :: tl.map pl).set (1 : Int).toNat (pl r1) = pl r1 :: pl r1 :: tl.map pl := rfl
          rw [e5] at e4
          simp only [q_mVar, q_mCst, q_oVal, q_oLoc, q_mOp2, q_bOf, q_bTru, q_bNot, q_bAnd, q_bOr, q_vAnd, q_vOr, q_vNot, q_mIte, q_mOr, q_aNil, q_aCons, q_aoNil, q_aoCons, q_mTup, q_nLst, q_iSeq, q_iSign, q_iR1, q_iR2, q_iEnumM, q_iRevM, q_iZipM, q_sNext, q_sSeq, q_sExpr, q_sRet, q_sRetN, q_sRetL, q_sIf, q_sSet, q_sSetN, q_sAsg, q_sFor, q_nLc, q_bYes, q_mCall, q_nCall, q_mMeth, q_mMeth0, q_mFld, q_mProp, q_nMake, q_pNone, q_pSome, q_mSl, q_mB, q_mRef, q_mMut, q_mMut0, q_mDGet, q_sPut, q_sFldP, q_sAug, q_mTx, q_mIsT, q_mInK, q_sRaise0, q_mExc, q_sTry, q_iScr, q_nDict, q_mNeg, q_mCallK, q_nCallK, Res.toS, Res.bind, Res.lift, Res.calm, resO, resL, CRes.toR, CRes.toN, CRes.toB, CRes.quiet, cellO, setE, setS, dLt, dLe, dGt, dGe, dAdd, iSub, dAddA, dEq, dNe, eqB, sEq, fInt, gNm, gTp, gsCons, gsNil, dTru, dIsN, dNotN, locAt, isLst, mutK, insC, List.getElem?_cons_zero, List.getElem?_cons_succ, List.set_cons_zero, List.set_cons_succ, List.length_cons, List.length_nil, List.length_set, Option.map_some, Option.map_none, Option.bind_some, if_true, if_false, decide_eq_true_eq, decide_true, decide_false, Nat.zero_lt_succ, Nat.reduceLT, Nat.reduceAdd, and_true, true_and, and_self, Bool.false_eq_true, List.map_cons, List.map_nil, List.cons_append, List.nil_append, List.replicate_succ, List.replicate_zero, Nat.reduceSub, List.append_nil, reduceCtorEq, reduceIte, ne_eq, not_false_eq_true, not_true_eq_false, List.tail_cons, List.head?_cons, sz_le, sz_lt, Nat.reduceLeDiff, Nat.zero_le, ok62_int, Int.reduceLE, Int.reduceNeg, Int.reduceToNat, Bool.and_self, Int.reduceLT, Int.natCast_zero, Int.cast_ofNat_Int, len_lst, e1, e2, e3, e4, q1, c1]
        | false =>
          simp only [q_mVar, q_mCst, q_oVal, q_oLoc, q_mOp2, q_bOf, q_bTru, q_bNot, q_bAnd, q_bOr, q_vAnd, q_vOr, q_vNot, q_mIte, q_mOr, q_aNil, q_aCons, q_aoNil, q_aoCons, q_mTup, q_nLst, q_iSeq, q_iSign, q_iR1, q_iR2, q_iEnumM, q_iRevM, q_iZipM, q_sNext, q_sSeq, q_sExpr, q_sRet, q_sRetN, q_sRetL, q_sIf, q_sSet, q_sSetN, q_sAsg, q_sFor, q_nLc, q_bYes, q_mCall, q_nCall, q_mMeth, q_mMeth0, q_mFld, q_mProp, q_nMake, q_pNone, q_pSome, q_mSl, q_mB, q_mRef, q_mMut, q_mMut0, q_mDGet, q_sPut, q_sFldP, q_sAug, q_mTx, q_mIsT, q_mInK, q_sRaise0, q_mExc, q_sTry, q_iScr, q_nDict, q_mNeg, q_mCallK, q_nCallK, Res.toS, Res.bind, Res.lift, Res.calm, resO, resL, CRes.toR, CRes.toN, CRes.toB, CRes.quiet, cellO, setE, setS, dLt, dLe, dGt, dGe, dAdd, iSub, dAddA, dEq, dNe, eqB, sEq, fInt, gNm, gTp, gsCons, gsNil, dTru, dIsN, dNotN, locAt, isLst, mutK, insC, List.getElem?_cons_zero, List.getElem?_cons_succ, List.set_cons_zero, List.set_cons_succ, List.length_cons, List.length_nil, List.length_set, Option.map_some, Option.map_none, Option.bind_some, if_true, if_false, decide_eq_true_eq, decide_true, decide_false, Nat.zero_lt_succ, Nat.reduceLT, Nat.reduceAdd, and_true, true_and, and_self, Bool.false_eq_true, List.map_cons, List.map_nil, List.cons_append, List.nil_append, List.replicate_succ, List.replicate_zero, Nat.reduceSub, List.append_nil, reduceCtorEq, reduceIte, ne_eq, not_false_eq_true, not_true_eq_false, List.tail_cons, List.head?_cons, sz_le, sz_lt, Nat.reduceLeDiff, Nat.zero_le, ok62_int, Int.reduceLE, Int.reduceNeg, Int.reduceToNat, Bool.and_self, Int.reduceLT, Int.natCast_zero, Int.cast_ofNat_Int, len_lst, e1, e2, e3, e4, q1, c1]
    refine good_next hB ?_
    clear hB
    refine good_next (env2 := [.val (.scr is), .val (.ref 0), .val (.bl large), .val (.lst (rs.map rowsD)), x4, .val (.int (need rs : Nat)), .val (strS cs), .loc (.lst (rs.map pl)), .val (.lst (rs.map pl)), .none, .none, .none, .none, x13, .none, .none, .none]) (S2 := [st5]) (by simp only [q_mVar, q_mCst, q_oVal, q_oLoc, q_mOp2, q_bOf, q_bTru, q_bNot, q_bAnd, q_bOr, q_vAnd, q_vOr, q_vNot, q_mIte, q_mOr, q_aNil, q_aCons, q_aoNil, q_aoCons, q_mTup, q_nLst, q_iSeq, q_iSign, q_iR1, q_iR2, q_iEnumM, q_iRevM, q_iZipM, q_sNext, q_sSeq, q_sExpr, q_sRet, q_sRetN, q_sRetL, q_sIf, q_sSet, q_sSetN, q_sAsg, q_sFor, q_nLc, q_bYes, q_mCall, q_nCall, q_mMeth, q_mMeth0, q_mFld, q_mProp, q_nMake, q_pNone, q_pSome, q_mSl, q_mB, q_mRef, q_mMut, q_mMut0, q_mDGet, q_sPut, q_sFldP, q_sAug, q_mTx, q_mIsT, q_mInK, q_sRaise0, q_mExc, q_sTry, q_iScr, q_nDict, q_mNeg, q_mCallK, q_nCallK, Res.toS, Res.bind, Res.lift, Res.calm, resO, resL, CRes.toR, CRes.toN, CRes.toB, CRes.quiet, cellO, setE, setS, dLt, dLe, dGt, dGe, dAdd, iSub, dAddA, dEq, dNe, eqB, sEq, fInt, gNm, gTp, gsCons, gsNil, dTru, dIsN, dNotN, locAt, isLst, mutK, insC, List.getElem?_cons_zero, List.getElem?_cons_succ, List.set_cons_zero, List.set_cons_succ, List.length_cons, List.length_nil, List.length_set, Option.map_some, Option.map_none, Option.bind_some, if_true, if_false, decide_eq_true_eq, decide_true, decide_false, Nat.zero_lt_succ, Nat.reduceLT, Nat.reduceAdd, and_true, true_and, and_self, Bool.false_eq_true, List.map_cons, List.map_nil, List.cons_append, List.nil_append, List.replicate_succ, List.replicate_zero, Nat.reduceSub, List.append_nil, reduceCtorEq, reduceIte, ne_eq, not_false_eq_true, not_true_eq_false, List.tail_cons, List.head?_cons, sz_le, sz_lt, Nat.reduceLeDiff, Nat.zero_le, ok62_int, Int.reduceLE, Int.reduceNeg, Int.reduceToNat, Bool.and_self, Int.reduceLT, Int.natCast_zero, Int.cast_ofNat_Int, fList_lst]) ?_
    -- what is due
    have d1 := in_a_row_ok rs cs ps.len hn hc (by omega) [st5]
    have d2 := by_turns_ok rs cs ps.len ne hn hc (by omega) [st5]
    refine good_next (env2 := [.val (.scr is), .val (.ref 0), .val (.bl large), .val (.lst (rs.map rowsD)), x4, .val (.int (need rs : Nat)), .val (strS cs), .loc (.lst (rs.map pl)), .val (.lst (rs.map pl)), .val (.lst [.lst ((inRow cs rs 0).1.map strS), .lst ((inRow cs rs 0).1.map strS), .lst ((rounds cs rs (maxLen rs)).1.map strS)]), .none, .none, .none, x13, .none, .none, .none]) (S2 := [st5]) (by simp only [q_mVar, q_mCst, q_oVal, q_oLoc, q_mOp2, q_bOf, q_bTru, q_bNot, q_bAnd, q_bOr, q_vAnd, q_vOr, q_vNot, q_mIte, q_mOr, q_aNil, q_aCons, q_aoNil, q_aoCons, q_mTup, q_nLst, q_iSeq, q_iSign, q_iR1, q_iR2, q_iEnumM, q_iRevM, q_iZipM, q_sNext, q_sSeq, q_sExpr, q_sRet, q_sRetN, q_sRetL, q_sIf, q_sSet, q_sSetN, q_sAsg, q_sFor, q_nLc, q_bYes, q_mCall, q_nCall, q_mMeth, q_mMeth0, q_mFld, q_mProp, q_nMake, q_pNone, q_pSome, q_mSl, q_mB, q_mRef, q_mMut, q_mMut0, q_mDGet, q_sPut, q_sFldP, q_sAug, q_mTx, q_mIsT, q_mInK, q_sRaise0, q_mExc, q_sTry, q_iScr, q_nDict, q_mNeg, q_mCallK, q_nCallK, Res.toS, Res.bind, Res.lift, Res.calm, resO, resL, CRes.toR, CRes.toN, CRes.toB, CRes.quiet, cellO, setE, setS, dLt, dLe, dGt, dGe, dAdd, iSub, dAddA, dEq, dNe, eqB, sEq, fInt, gNm, gTp, gsCons, gsNil, dTru, dIsN, dNotN, locAt, isLst, mutK, insC, List.getElem?_cons_zero, List.getElem?_cons_succ, List.set_cons_zero, List.set_cons_succ, List.length_cons, List.length_nil, List.length_set, Option.map_some, Option.map_none, Option.bind_some, if_true, if_false, decide_eq_true_eq, decide_true, decide_false, Nat.zero_lt_succ, Nat.reduceLT, Nat.reduceAdd, and_true, true_and, and_self, Bool.false_eq_true, List.map_cons, List.map_nil, List.cons_append, List.nil_append, List.replicate_succ, List.replicate_zero, Nat.reduceSub, List.append_nil, reduceCtorEq, reduceIte, ne_eq, not_false_eq_true, not_true_eq_false, List.tail_cons, List.head?_cons, sz_le, sz_lt, Nat.reduceLeDiff, Nat.zero_le, ok62_int, Int.reduceLE, Int.reduceNeg, Int.reduceToNat, Bool.and_self, Int.reduceLT, Int.natCast_zero, Int.cast_ofNat_Int, d1, d2]) ?_
    clear d1 d2
    have hseg := inRow_seg cs rs 0 (by omega)
    have hle := inRow_le cs rs 0
    have hfl : (inRow cs rs 0).1.flatten = cs.take (inRow cs rs 0).2 := by simpa using hseg
    have jn := join_S0 (l := (inRow cs rs 0).1) (by rw [hfl, List.length_take]; omega)
    have sw := starts_S (a := cs) (b := (inRow cs rs 0).1.flatten) ⟨cs.drop (inRow cs rs 0).2, by rw [hfl, List.take_append_drop]⟩
    have Im := rounds_I cs rs (maxLen rs)
    have Il := turnI_len Im.1
    have It := turnI_total Im.1
    have m12 := maxLen_le ps.len ne
    have nef : (rounds cs rs (maxLen rs)).1 ≠ [] := by intro z; rw [z] at Il; simp at Il; exact ne (List.length_eq_zero_iff.mp Il.symm)
    obtain ⟨K, hK⟩ : ∃ K : Nat, maxI ((rounds cs rs (maxLen rs)).1.map fun c => (c.length : Int)) = (K : Nat) := by
      have := (maxI_mem (l := (rounds cs rs (maxLen rs)).1.map fun c => (c.length : Int)) (by simpa using nef)).1
      obtain ⟨c, _, e⟩ := List.mem_map.mp this
      exact ⟨c.length, by rw [← e]⟩
    have hKm : K ≤ maxLen rs := by
      have := (maxI_mem (l := (rounds cs rs (maxLen rs)).1.map fun c => (c.length : Int)) (by simpa using nef)).1
      obtain ⟨c, hcm, e⟩ := List.mem_map.mp this
      have : ∀ {ps : List Rows} {cos : List (List Nat)} {j : Nat}, TurnI j ps cos → ∀ c ∈ cos, c.length ≤ j := by
        intro ps cos j h
        induction h with
        | nil => intro c h; cases h
        | cons le lim dn t ih => intro c h; rcases List.mem_cons.mp h with rfl | h
                                 · exact le
                                 · exact ih c h
      have := this Im.1 c hcm
      omega
    have dr := dealt_rounds cs rs hn (maxLen rs) K hKm
    have dk := dealt_ok (rounds cs rs (maxLen rs)).1 cs K nef hK (fun c h => by have := len_total _ c h; omega) (by omega) (by omega) ⟨cs.drop (rounds cs rs K).2, by rw [dr, List.take_append_drop]⟩ hc [st5]
    refine good_next (env2 := [.val (.scr is), .val (.ref 0), .val (.bl large), .val (.lst (rs.map rowsD)), x4, .val (.int (need rs : Nat)), .val (strS cs), .loc (.lst (rs.map pl)), .val (.lst (rs.map pl)), .val (.lst [.lst ((inRow cs rs 0).1.map strS), .lst ((inRow cs rs 0).1.map strS), .lst ((rounds cs rs (maxLen rs)).1.map strS)]), .none, .none, .none, x13, .none, .none, .none]) (S2 := [st5]) (by
      have i0 : ∀ a b c : D, dIx (.lst [a, b, c]) (.int 0) = some a := fun a b c => rfl
      have i2 : ∀ a b c : D, dIx (.lst [a, b, c]) (.int 2) = some c := fun a b c => rfl
      simp only [q_mVar, q_mCst, q_oVal, q_oLoc, q_mOp2, q_bOf, q_bTru, q_bNot, q_bAnd, q_bOr, q_vAnd, q_vOr, q_vNot, q_mIte, q_mOr, q_aNil, q_aCons, q_aoNil, q_aoCons, q_mTup, q_nLst, q_iSeq, q_iSign, q_iR1, q_iR2, q_iEnumM, q_iRevM, q_iZipM, q_sNext, q_sSeq, q_sExpr, q_sRet, q_sRetN, q_sRetL, q_sIf, q_sSet, q_sSetN, q_sAsg, q_sFor, q_nLc, q_bYes, q_mCall, q_nCall, q_mMeth, q_mMeth0, q_mFld, q_mProp, q_nMake, q_pNone, q_pSome, q_mSl, q_mB, q_mRef, q_mMut, q_mMut0, q_mDGet, q_sPut, q_sFldP, q_sAug, q_mTx, q_mIsT, q_mInK, q_sRaise0, q_mExc, q_sTry, q_iScr, q_nDict, q_mNeg, q_mCallK, q_nCallK, Res.toS, Res.bind, Res.lift, Res.calm, resO, resL, CRes.toR, CRes.toN, CRes.toB, CRes.quiet, cellO, setE, setS, dLt, dLe, dGt, dGe, dAdd, iSub, dAddA, dEq, dNe, eqB, sEq, fInt, gNm, gTp, gsCons, gsNil, dTru, dIsN, dNotN, locAt, isLst, mutK, insC, List.getElem?_cons_zero, List.getElem?_cons_succ, List.set_cons_zero, List.set_cons_succ, List.length_cons, List.length_nil, List.length_set, Option.map_some, Option.map_none, Option.bind_some, if_true, if_false, decide_eq_true_eq, decide_true, decide_false, Nat.zero_lt_succ, Nat.reduceLT, Nat.reduceAdd, and_true, true_and, and_self, Bool.false_eq_true, List.map_cons, List.map_nil, List.cons_append, List.nil_append, List.replicate_succ, List.replicate_zero, Nat.reduceSub, List.append_nil, reduceCtorEq, reduceIte, ne_eq, not_false_eq_true, not_true_eq_false, List.tail_cons, List.head?_cons, sz_le, sz_lt, Nat.reduceLeDiff, Nat.zero_le, ok62_int, Int.reduceLE, Int.reduceNeg, Int.reduceToNat, Bool.and_self, Int.reduceLT, Int.natCast_zero, Int.cast_ofNat_Int, emp_S, i0, i2, jn, sw, dk, Bool.not_true]) ?_
    clear dk dr hKm hK nef jn sw
    -- the order
    obtain ⟨ys, st6, s1, so6, pm⟩ := shuffled_ok [] [.int 0, .int 1, .int 2, .int 0, .int 2] so5 (by simp) (by simp)
    refine good_next (env2 := [.val (.scr is), .val (.ref 0), .val (.bl large), .val (.lst (rs.map rowsD)), x4, .val (.int (need rs : Nat)), .val (strS cs), .loc (.lst (rs.map pl)), .val (.lst (rs.map pl)), .val (.lst [.lst ((inRow cs rs 0).1.map strS), .lst ((inRow cs rs 0).1.map strS), .lst ((rounds cs rs (maxLen rs)).1.map strS)]), .val (.lst ys), .none, .none, x13, .none, .none, .none]) (S2 := [st6]) (by simp only [q_mVar, q_mCst, q_oVal, q_oLoc, q_mOp2, q_bOf, q_bTru, q_bNot, q_bAnd, q_bOr, q_vAnd, q_vOr, q_vNot, q_mIte, q_mOr, q_aNil, q_aCons, q_aoNil, q_aoCons, q_mTup, q_nLst, q_iSeq, q_iSign, q_iR1, q_iR2, q_iEnumM, q_iRevM, q_iZipM, q_sNext, q_sSeq, q_sExpr, q_sRet, q_sRetN, q_sRetL, q_sIf, q_sSet, q_sSetN, q_sAsg, q_sFor, q_nLc, q_bYes, q_mCall, q_nCall, q_mMeth, q_mMeth0, q_mFld, q_mProp, q_nMake, q_pNone, q_pSome, q_mSl, q_mB, q_mRef, q_mMut, q_mMut0, q_mDGet, q_sPut, q_sFldP, q_sAug, q_mTx, q_mIsT, q_mInK, q_sRaise0, q_mExc, q_sTry, q_iScr, q_nDict, q_mNeg, q_mCallK, q_nCallK, Res.toS, Res.bind, Res.lift, Res.calm, resO, resL, CRes.toR, CRes.toN, CRes.toB, CRes.quiet, cellO, setE, setS, dLt, dLe, dGt, dGe, dAdd, iSub, dAddA, dEq, dNe, eqB, sEq, fInt, gNm, gTp, gsCons, gsNil, dTru, dIsN, dNotN, locAt, isLst, mutK, insC, List.getElem?_cons_zero, List.getElem?_cons_succ, List.set_cons_zero, List.set_cons_succ, List.length_cons, List.length_nil, List.length_set, Option.map_some, Option.map_none, Option.bind_some, if_true, if_false, decide_eq_true_eq, decide_true, decide_false, Nat.zero_lt_succ, Nat.reduceLT, Nat.reduceAdd, and_true, true_and, and_self, Bool.false_eq_true, List.map_cons, List.map_nil, List.cons_append, List.nil_append, List.replicate_succ, List.replicate_zero, Nat.reduceSub, List.append_nil, reduceCtorEq, reduceIte, ne_eq, not_false_eq_true, not_true_eq_false, List.tail_cons, List.head?_cons, sz_le, sz_lt, Nat.reduceLeDiff, Nat.zero_le, ok62_int, Int.reduceLE, Int.reduceNeg, Int.reduceToNat, Bool.and_self, Int.reduceLT, Int.natCast_zero, Int.cast_ofNat_Int, s1]) ?_
    clear s1 so5
    have hys : ∀ d ∈ ys, ∃ h : Int, d = .int h ∧ (h = 0 ∨ h = 1 ∨ h = 2) := by
      intro d hd
      have := pm.subset hd
      simp at this
      rcases this with h | h | h | h | h
      · exact ⟨0, h, by simp⟩
      · exact ⟨1, h, by simp⟩
      · exact ⟨2, h, by simp⟩
      · exact ⟨0, h, by simp⟩
      · exact ⟨2, h, by simp⟩
    clear pm
    have hdl : ∀ t, (due cs rs t).length = rs.length := by
      intro t
      cases t with
      | true => exact Il
      | false => exact hle.2.1
    have tix : ∀ (a : D) (n : Nat), dIx (.tup [a, .ref n]) (.int 1) = some (.ref n) := fun a n => rfl
    refine good_seq ?_
    suffices hA : ∃ (x7 x11 x14 : Vf.Slot) (G : List D), (sFor _ _ _ _ _ : SRes) = .next [.val (.scr is), .val (.ref 0), .val (.bl large), .val (.lst (rs.map rowsD)), x4, .val (.int (need rs : Nat)), .val (strS cs), x7, .val (.lst (rs.map pl)), .val (.lst [.lst ((inRow cs rs 0).1.map strS), .lst ((inRow cs rs 0).1.map strS), .lst ((rounds cs rs (maxLen rs)).1.map strS)]), .val (.lst ys), x11, .none, x13, x14, .none, .none] (st6 :: G) ∧ (x7 = .loc (.lst (rs.map pl)) ∨ x7 = .val (.lst (rs.map pl))) by
      obtain ⟨x7, x11, x14, G, hA, h7⟩ := hA
      refine ⟨_, _, hA, ?_⟩
      clear hA hys
      -- too short
      have hB : ∃ (x7' x11' x15 : Vf.Slot) (st7 : D), (sIf (bOf (mOp2 dGt (oLoc 5) (oVal (mCst (.int 0))))) (sFor (iSeq (nLst (aCons (mSl (oLoc 6) pNone (pSome (mOp2 iSub (oLoc 5) (oVal (mCst (.int 1)))))) (aCons (mSl (oLoc 6) pNone (pSome (mCall 2 F_law_take (aCons (mVar 1) (aCons (mVar 5) aNil))))) (aCons (mCst (.str "")) aNil))))) (gNm 15) (sFor (iR1 (aoCons (oVal (mCst (.int 3))) aoNil)) (gNm 11) (sIf (bNot (bTru (oVal (mCall 2 (F_law_matches 5) (aCons (mCall 3 F_law_ask (aCons (mVar 7) (aCons (mVar 15) (aCons (mVar 11) aNil)))) (aCons (mTup (aCons (mCst (.str "raised")) (aCons (mCst (.str "BadLot")) aNil))) aNil)))))) (sRet (mCst (.bl false))) sNext))) sNext) [.val (.scr is), .val (.ref 0), .val (.bl large), .val (.lst (rs.map rowsD)), x4, .val (.int (need rs : Nat)), .val (strS cs), x7, .val (.lst (rs.map pl)), .val (.lst [.lst ((inRow cs rs 0).1.map strS), .lst ((inRow cs rs 0).1.map strS), .lst ((rounds cs rs (maxLen rs)).1.map strS)]), .val (.lst ys), x11, .none, x13, x14, .none, .none] (st6 :: G) = .next [.val (.scr is), .val (.ref 0), .val (.bl large), .val (.lst (rs.map rowsD)), x4, .val (.int (need rs : Nat)), .val (strS cs), x7', .val (.lst (rs.map pl)), .val (.lst [.lst ((inRow cs rs 0).1.map strS), .lst ((inRow cs rs 0).1.map strS), .lst ((rounds cs rs (maxLen rs)).1.map strS)]), .val (.lst ys), x11', .none, x13, x14, x15, .none] (st7 :: G) ∧ (x7' = .loc (.lst (rs.map pl)) ∨ x7' = .val (.lst (rs.map pl))) := by
        by_cases c0 : need rs = 0
        · have c : ¬ (0 : Int) < (need rs : Nat) := by omega
          exact ⟨x7, x11, .none, st6, by simp only [q_mVar, q_mCst, q_oVal, q_oLoc, q_mOp2, q_bOf, q_bTru, q_bNot, q_bAnd, q_bOr, q_vAnd, q_vOr, q_vNot, q_mIte, q_mOr, q_aNil, q_aCons, q_aoNil, q_aoCons, q_mTup, q_nLst, q_iSeq, q_iSign, q_iR1, q_iR2, q_iEnumM, q_iRevM, q_iZipM, q_sNext, q_sSeq, q_sExpr, q_sRet, q_sRetN, q_sRetL, q_sIf, q_sSet, q_sSetN, q_sAsg, q_sFor, q_nLc, q_bYes, q_mCall, q_nCall, q_mMeth, q_mMeth0, q_mFld, q_mProp, q_nMake, q_pNone, q_pSome, q_mSl, q_mB, q_mRef, q_mMut, q_mMut0, q_mDGet, q_sPut, q_sFldP, q_sAug, q_mTx, q_mIsT, q_mInK, q_sRaise0, q_mExc, q_sTry, q_iScr, q_nDict, q_mNeg, q_mCallK, q_nCallK, Res.toS, Res.bind, Res.lift, Res.calm, resO, resL, CRes.toR, CRes.toN, CRes.toB, CRes.quiet, cellO, setE, setS, dLt, dLe, dGt, dGe, dAdd, iSub, dAddA, dEq, dNe, eqB, sEq, fInt, gNm, gTp, gsCons, gsNil, dTru, dIsN, dNotN, locAt, isLst, mutK, insC, List.getElem?_cons_zero, List.getElem?_cons_succ, List.set_cons_zero, List.set_cons_succ, List.length_cons, List.length_nil, List.length_set, Option.map_some, Option.map_none, Option.bind_some, if_true, if_false, decide_eq_true_eq, decide_true, decide_false, Nat.zero_lt_succ, Nat.reduceLT, Nat.reduceAdd, and_true, true_and, and_self, Bool.false_eq_true, List.map_cons, List.map_nil, List.cons_append, List.nil_append, List.replicate_succ, List.replicate_zero, Nat.reduceSub, List.append_nil, reduceCtorEq, reduceIte, ne_eq, not_false_eq_true, not_true_eq_false, List.tail_cons, List.head?_cons, sz_le, sz_lt, Nat.reduceLeDiff, Nat.zero_le, ok62_int, Int.reduceLE, Int.reduceNeg, Int.reduceToNat, Bool.and_self, Int.reduceLT, Int.natCast_zero, Int.cast_ofNat_Int, c], h7⟩
        · have c : (0 : Int) < (need rs : Nat) := by omega
          obtain ⟨v, st7, t1, so7, vp, vl, v0⟩ := take_ok G (need rs : Nat) so6 (by simp) (lt_big (by omega))
          have hv : v < (need rs : Nat) := by
            by_cases q : (2 : Int) ≤ (need rs : Nat)
            · exact vl q
            · have := v0 (by omega); omega
          obtain ⟨vn, rfl⟩ : ∃ m : Nat, v = (m : Int) := ⟨v.toNat, by omega⟩
          have s1 := slTo_S (a := cs) (j := need rs - 1) (by omega)
          rw [show ((need rs - 1 : Nat) : Int) = (need rs : Nat) - 1 by omega] at s1
          have s2 := slTo_S (a := cs) (j := vn) (by omega)
          have shorts : ∀ d ∈ [strS (cs.take (need rs - 1)), strS (cs.take vn), strS []], ∃ sh : List Nat, d = strS sh ∧ sh.length < need rs := by
            intro d hd
            simp only [List.mem_cons, List.not_mem_nil, or_false] at hd
            rcases hd with rfl | rfl | rfl
            · exact ⟨_, rfl, by rw [List.length_take]; omega⟩
            · exact ⟨_, rfl, by rw [List.length_take]; omega⟩
            · exact ⟨_, rfl, by simp; omega⟩
          obtain ⟨env', S', eL, x7', x11', x15, rfl, rfl, h7'⟩ := loop_ds (g := gNm 15) (body := (sFor (iR1 (aoCons (oVal (mCst (.int 3))) aoNil)) (gNm 11) (sIf (bNot (bTru (oVal (mCall 2 (F_law_matches 5) (aCons (mCall 3 F_law_ask (aCons (mVar 7) (aCons (mVar 15) (aCons (mVar 11) aNil)))) (aCons (mTup (aCons (mCst (.str "raised")) (aCons (mCst (.str "BadLot")) aNil))) aNil)))))) (sRet (mCst (.bl false))) sNext))) (ds := [strS (cs.take (need rs - 1)), strS (cs.take vn), strS []]) (env := [.val (.scr is), .val (.ref 0), .val (.bl large), .val (.lst (rs.map rowsD)), x4, .val (.int (need rs : Nat)), .val (strS cs), x7, .val (.lst (rs.map pl)), .val (.lst [.lst ((inRow cs rs 0).1.map strS), .lst ((inRow cs rs 0).1.map strS), .lst ((rounds cs rs (maxLen rs)).1.map strS)]), .val (.lst ys), x11, .none, x13, x14, .none, .none]) (S := st7 :: G)
            (fun k env' S' => ∃ (x7' x11' x15 : Vf.Slot), env' = [.val (.scr is), .val (.ref 0), .val (.bl large), .val (.lst (rs.map rowsD)), x4, .val (.int (need rs : Nat)), .val (strS cs), x7', .val (.lst (rs.map pl)), .val (.lst [.lst ((inRow cs rs 0).1.map strS), .lst ((inRow cs rs 0).1.map strS), .lst ((rounds cs rs (maxLen rs)).1.map strS)]), .val (.lst ys), x11', .none, x13, x14, x15, .none] ∧ S' = st7 :: G ∧ (x7' = .loc (.lst (rs.map pl)) ∨ x7' = .val (.lst (rs.map pl))))
            ⟨x7, x11, .none, rfl, rfl, h7⟩ fun k d env S1 hd hI => by
              obtain ⟨y7, y11, y15, rfl, rfl, k7⟩ := hI
              obtain ⟨sh, rfl, hsh⟩ := shorts d (List.mem_of_getElem? hd)
              simp only [q_mVar, q_mCst, q_oVal, q_oLoc, q_mOp2, q_bOf, q_bTru, q_bNot, q_bAnd, q_bOr, q_vAnd, q_vOr, q_vNot, q_mIte, q_mOr, q_aNil, q_aCons, q_aoNil, q_aoCons, q_mTup, q_nLst, q_iSeq, q_iSign, q_iR1, q_iR2, q_iEnumM, q_iRevM, q_iZipM, q_sNext, q_sSeq, q_sExpr, q_sRet, q_sRetN, q_sRetL, q_sIf, q_sSet, q_sSetN, q_sAsg, q_sFor, q_nLc, q_bYes, q_mCall, q_nCall, q_mMeth, q_mMeth0, q_mFld, q_mProp, q_nMake, q_pNone, q_pSome, q_mSl, q_mB, q_mRef, q_mMut, q_mMut0, q_mDGet, q_sPut, q_sFldP, q_sAug, q_mTx, q_mIsT, q_mInK, q_sRaise0, q_mExc, q_sTry, q_iScr, q_nDict, q_mNeg, q_mCallK, q_nCallK, Res.toS, Res.bind, Res.lift, Res.calm, resO, resL, CRes.toR, CRes.toN, CRes.toB, CRes.quiet, cellO, setE, setS, dLt, dLe, dGt, dGe, dAdd, iSub, dAddA, dEq, dNe, eqB, sEq, fInt, gNm, gTp, gsCons, gsNil, dTru, dIsN, dNotN, locAt, isLst, mutK, insC, List.getElem?_cons_zero, List.getElem?_cons_succ, List.set_cons_zero, List.set_cons_succ, List.length_cons, List.length_nil, List.length_set, Option.map_some, Option.map_none, Option.bind_some, if_true, if_false, decide_eq_true_eq, decide_true, decide_false, Nat.zero_lt_succ, Nat.reduceLT, Nat.reduceAdd, and_true, true_and, and_self, Bool.false_eq_true, List.map_cons, List.map_nil, List.cons_append, List.nil_append, List.replicate_succ, List.replicate_zero, Nat.reduceSub, List.append_nil, reduceCtorEq, reduceIte, ne_eq, not_false_eq_true, not_true_eq_false, List.tail_cons, List.head?_cons, sz_le, sz_lt, Nat.reduceLeDiff, Nat.zero_le, ok62_int, Int.reduceLE, Int.reduceNeg, Int.reduceToNat, Bool.and_self, Int.reduceLT, Int.natCast_zero, Int.cast_ofNat_Int, turnF]
              refine (?_ : ∃ env2 S2, loopF _ _ _ _ _ = _ ∧ _)
              obtain ⟨env', S', eL, z7, z11, rfl, rfl, hz⟩ := loop_range (g := gNm 11) (body := (sIf (bNot (bTru (oVal (mCall 2 (F_law_matches 5) (aCons (mCall 3 F_law_ask (aCons (mVar 7) (aCons (mVar 15) (aCons (mVar 11) aNil)))) (aCons (mTup (aCons (mCst (.str "raised")) (aCons (mCst (.str "BadLot")) aNil))) aNil)))))) (sRet (mCst (.bl false))) sNext)) (lo := 0) (n := 3) (env := [.val (.scr is), .val (.ref 0), .val (.bl large), .val (.lst (rs.map rowsD)), x4, .val (.int (need rs : Nat)), .val (strS cs), y7, .val (.lst (rs.map pl)), .val (.lst [.lst ((inRow cs rs 0).1.map strS), .lst ((inRow cs rs 0).1.map strS), .lst ((rounds cs rs (maxLen rs)).1.map strS)]), .val (.lst ys), y11, .none, x13, x14, .val (strS sh), .none]) (S := st7 :: G)
                (fun k env' S' => ∃ (z7 z11 : Vf.Slot), env' = [.val (.scr is), .val (.ref 0), .val (.bl large), .val (.lst (rs.map rowsD)), x4, .val (.int (need rs : Nat)), .val (strS cs), z7, .val (.lst (rs.map pl)), .val (.lst [.lst ((inRow cs rs 0).1.map strS), .lst ((inRow cs rs 0).1.map strS), .lst ((rounds cs rs (maxLen rs)).1.map strS)]), .val (.lst ys), z11, .none, x13, x14, .val (strS sh), .none] ∧ S' = st7 :: G ∧ (z7 = .loc (.lst (rs.map pl)) ∨ z7 = .val (.lst (rs.map pl))))
                ⟨y7, y11, rfl, rfl, k7⟩ fun i env S1 hi hI => by
                  obtain ⟨z7, z11, rfl, rfl, hz⟩ := hI
                  have ab := ask_bad rs sh (0 + (i : Int)) hsh (by omega) (by omega) (st7 :: G)
                  have mb := m_bad (st7 :: G)
                  refine ⟨[.val (.scr is), .val (.ref 0), .val (.bl large), .val (.lst (rs.map rowsD)), x4, .val (.int (need rs : Nat)), .val (strS cs), .val (.lst (rs.map pl)), .val (.lst (rs.map pl)), .val (.lst [.lst ((inRow cs rs 0).1.map strS), .lst ((inRow cs rs 0).1.map strS), .lst ((rounds cs rs (maxLen rs)).1.map strS)]), .val (.lst ys), .val (.int (0 + (i : Int))), .none, x13, x14, .val (strS sh), .none], st7 :: G, ?_, _, _, rfl, rfl, .inr rfl⟩
                  rcases hz with rfl | rfl
                  · simp only [q_mVar, q_mCst, q_oVal, q_oLoc, q_mOp2, q_bOf, q_bTru, q_bNot, q_bAnd, q_bOr, q_vAnd, q_vOr, q_vNot, q_mIte, q_mOr, q_aNil, q_aCons, q_aoNil, q_aoCons, q_mTup, q_nLst, q_iSeq, q_iSign, q_iR1, q_iR2, q_iEnumM, q_iRevM, q_iZipM, q_sNext, q_sSeq, q_sExpr, q_sRet, q_sRetN, q_sRetL, q_sIf, q_sSet, q_sSetN, q_sAsg, q_sFor, q_nLc, q_bYes, q_mCall, q_nCall, q_mMeth, q_mMeth0, q_mFld, q_mProp, q_nMake, q_pNone, q_pSome, q_mSl, q_mB, q_mRef, q_mMut, q_mMut0, q_mDGet, q_sPut, q_sFldP, q_sAug, q_mTx, q_mIsT, q_mInK, q_sRaise0, q_mExc, q_sTry, q_iScr, q_nDict, q_mNeg, q_mCallK, q_nCallK, Res.toS, Res.bind, Res.lift, Res.calm, resO, resL, CRes.toR, CRes.toN, CRes.toB, CRes.quiet, cellO, setE, setS, dLt, dLe, dGt, dGe, dAdd, iSub, dAddA, dEq, dNe, eqB, sEq, fInt, gNm, gTp, gsCons, gsNil, dTru, dIsN, dNotN, locAt, isLst, mutK, insC, List.getElem?_cons_zero, List.getElem?_cons_succ, List.set_cons_zero, List.set_cons_succ, List.length_cons, List.length_nil, List.length_set, Option.map_some, Option.map_none, Option.bind_some, if_true, if_false, decide_eq_true_eq, decide_true, decide_false, Nat.zero_lt_succ, Nat.reduceLT, Nat.reduceAdd, and_true, true_and, and_self, Bool.false_eq_true, List.map_cons, List.map_nil, List.cons_append, List.nil_append, List.replicate_succ, List.replicate_zero, Nat.reduceSub, List.append_nil, reduceCtorEq, reduceIte, ne_eq, not_false_eq_true, not_true_eq_false, List.tail_cons, List.head?_cons, sz_le, sz_lt, Nat.reduceLeDiff, Nat.zero_le, ok62_int, Int.reduceLE, Int.reduceNeg, Int.reduceToNat, Bool.and_self, Int.reduceLT, Int.natCast_zero, Int.cast_ofNat_Int, turnF, ab, mb, Bool.not_true]
                  · simp only [q_mVar, q_mCst, q_oVal, q_oLoc, q_mOp2, q_bOf, q_bTru, q_bNot, q_bAnd, q_bOr, q_vAnd, q_vOr, q_vNot, q_mIte, q_mOr, q_aNil, q_aCons, q_aoNil, q_aoCons, q_mTup, q_nLst, q_iSeq, q_iSign, q_iR1, q_iR2, q_iEnumM, q_iRevM, q_iZipM, q_sNext, q_sSeq, q_sExpr, q_sRet, q_sRetN, q_sRetL, q_sIf, q_sSet, q_sSetN, q_sAsg, q_sFor, q_nLc, q_bYes, q_mCall, q_nCall, q_mMeth, q_mMeth0, q_mFld, q_mProp, q_nMake, q_pNone, q_pSome, q_mSl, q_mB, q_mRef, q_mMut, q_mMut0, q_mDGet, q_sPut, q_sFldP, q_sAug, q_mTx, q_mIsT, q_mInK, q_sRaise0, q_mExc, q_sTry, q_iScr, q_nDict, q_mNeg, q_mCallK, q_nCallK, Res.toS, Res.bind, Res.lift, Res.calm, resO, resL, CRes.toR, CRes.toN, CRes.toB, CRes.quiet, cellO, setE, setS, dLt, dLe, dGt, dGe, dAdd, iSub, dAddA, dEq, dNe, eqB, sEq, fInt, gNm, gTp, gsCons, gsNil, dTru, dIsN, dNotN, locAt, isLst, mutK, insC, List.getElem?_cons_zero, List.getElem?_cons_succ, List.set_cons_zero, List.set_cons_succ, List.length_cons, List.length_nil, List.length_set, Option.map_some, Option.map_none, Option.bind_some, if_true, if_false, decide_eq_true_eq, decide_true, decide_false, Nat.zero_lt_succ, Nat.reduceLT, Nat.reduceAdd, and_true, true_and, and_self, Bool.false_eq_true, List.map_cons, List.map_nil, List.cons_append, List.nil_append, List.replicate_succ, List.replicate_zero, Nat.reduceSub, List.append_nil, reduceCtorEq, reduceIte, ne_eq, not_false_eq_true, not_true_eq_false, List.tail_cons, List.head?_cons, sz_le, sz_lt, Nat.reduceLeDiff, Nat.zero_le, ok62_int, Int.reduceLE, Int.reduceNeg, Int.reduceToNat, Bool.and_self, Int.reduceLT, Int.natCast_zero, Int.cast_ofNat_Int, turnF, ab, mb, Bool.not_true]
              exact ⟨_, _, eL, _, _, _, rfl, rfl, hz⟩
          exact ⟨x7', x11', x15, st7, by simp only [q_mVar, q_mCst, q_oVal, q_oLoc, q_mOp2, q_bOf, q_bTru, q_bNot, q_bAnd, q_bOr, q_vAnd, q_vOr, q_vNot, q_mIte, q_mOr, q_aNil, q_aCons, q_aoNil, q_aoCons, q_mTup, q_nLst, q_iSeq, q_iSign, q_iR1, q_iR2, q_iEnumM, q_iRevM, q_iZipM, q_sNext, q_sSeq, q_sExpr, q_sRet, q_sRetN, q_sRetL, q_sIf, q_sSet, q_sSetN, q_sAsg, q_sFor, q_nLc, q_bYes, q_mCall, q_nCall, q_mMeth, q_mMeth0, q_mFld, q_mProp, q_nMake, q_pNone, q_pSome, q_mSl, q_mB, q_mRef, q_mMut, q_mMut0, q_mDGet, q_sPut, q_sFldP, q_sAug, q_mTx, q_mIsT, q_mInK, q_sRaise0, q_mExc, q_sTry, q_iScr, q_nDict, q_mNeg, q_mCallK, q_nCallK, Res.toS, Res.bind, Res.lift, Res.calm, resO, resL, CRes.toR, CRes.toN, CRes.toB, CRes.quiet, cellO, setE, setS, dLt, dLe, dGt, dGe, dAdd, iSub, dAddA, dEq, dNe, eqB, sEq, fInt, gNm, gTp, gsCons, gsNil, dTru, dIsN, dNotN, locAt, isLst, mutK, insC, List.getElem?_cons_zero, List.getElem?_cons_succ, List.set_cons_zero, List.set_cons_succ, List.length_cons, List.length_nil, List.length_set, Option.map_some, Option.map_none, Option.bind_some, if_true, if_false, decide_eq_true_eq, decide_true, decide_false, Nat.zero_lt_succ, Nat.reduceLT, Nat.reduceAdd, and_true, true_and, and_self, Bool.false_eq_true, List.map_cons, List.map_nil, List.cons_append, List.nil_append, List.replicate_succ, List.replicate_zero, Nat.reduceSub, List.append_nil, reduceCtorEq, reduceIte, ne_eq, not_false_eq_true, not_true_eq_false, List.tail_cons, List.head?_cons, sz_le, sz_lt, Nat.reduceLeDiff, Nat.zero_le, ok62_int, Int.reduceLE, Int.reduceNeg, Int.reduceToNat, Bool.and_self, Int.reduceLT, Int.natCast_zero, Int.cast_ofNat_Int, c, t1, s1, s2, emp_S, eL], h7'⟩
      obtain ⟨x7, x11, x15, st7, hB, h7⟩ := hB
      refine good_next hB ?_
      clear hB
      -- the told example
      have okA : OkR [[0], [1]] := okR_snoc (rows := [[0]]) (okR_snoc (rows := []) okR_nil ⟨by simp, by simp, fun x hx => by simpa [metP] using hx⟩) ⟨by simp, by simp, fun x hx => by simp at hx; subst hx; simp [metP, rowAt]⟩
      have okB : OkR [[0]] := okR_snoc (rows := []) okR_nil ⟨by simp, by simp, fun x hx => by simpa [metP] using hx⟩
      obtain ⟨L, hL⟩ : ∃ L, L = st7 :: G := ⟨_, rfl⟩
      rw [← hL]
      have iA : F_Plan_init [.lst [.lst [.int 0], .lst [.int 1]]] L = .ok (pl [[0], [1]]) L := init_ok [[0], [1]] okA (by decide) L
      have iB : F_Plan_init [.lst [.lst [.int 0]]] L = .ok (pl [[0]]) L := init_ok [[0]] okB (by decide) L
      have gbb : ("gbb" : Str) = S [103, 98, 98] := by decide +kernel
      have gb2 : ("gb" : Str) = S [103, 98] := by decide +kernel
      have b1 : ("b" : Str) = S [98] := by decide +kernel
      have ak := ask_ok [[[0], [1]], [[0]]] [103, 98, 98] 2 (by decide) (by decide) (by decide) (by decide) (by decide) L
      have dk : due [103, 98, 98] [[[0], [1]], [[0]]] (decide ((2 : Int) = 2)) = [[103, 98], [98]] := by decide +kernel
      rw [dk] at ak
      have ak' : F_law_ask [.lst [pl [[0], [1]], pl [[0]]], strS [103, 98, 98], .int 2] L = .ok (.tup [.str "told", .ref L.length]) (L ++ [.lst [strS [103, 98], strS [98]]]) := ak
      refine good_next (env2 := [.val (.scr is), .val (.ref 0), .val (.bl large), .val (.lst (rs.map rowsD)), x4, .val (.int (need rs : Nat)), .val (strS cs), x7, .val (.lst (rs.map pl)), .val (.lst [.lst ((inRow cs rs 0).1.map strS), .lst ((inRow cs rs 0).1.map strS), .lst ((rounds cs rs (maxLen rs)).1.map strS)]), .val (.lst ys), x11, .val (.tup [.str "told", .ref L.length]), x13, x14, x15, .none]) (S2 := L ++ [.lst [strS [103, 98], strS [98]]]) (by simp only [q_mVar, q_mCst, q_oVal, q_oLoc, q_mOp2, q_bOf, q_bTru, q_bNot, q_bAnd, q_bOr, q_vAnd, q_vOr, q_vNot, q_mIte, q_mOr, q_aNil, q_aCons, q_aoNil, q_aoCons, q_mTup, q_nLst, q_iSeq, q_iSign, q_iR1, q_iR2, q_iEnumM, q_iRevM, q_iZipM, q_sNext, q_sSeq, q_sExpr, q_sRet, q_sRetN, q_sRetL, q_sIf, q_sSet, q_sSetN, q_sAsg, q_sFor, q_nLc, q_bYes, q_mCall, q_nCall, q_mMeth, q_mMeth0, q_mFld, q_mProp, q_nMake, q_pNone, q_pSome, q_mSl, q_mB, q_mRef, q_mMut, q_mMut0, q_mDGet, q_sPut, q_sFldP, q_sAug, q_mTx, q_mIsT, q_mInK, q_sRaise0, q_mExc, q_sTry, q_iScr, q_nDict, q_mNeg, q_mCallK, q_nCallK, Res.toS, Res.bind, Res.lift, Res.calm, resO, resL, CRes.toR, CRes.toN, CRes.toB, CRes.quiet, cellO, setE, setS, dLt, dLe, dGt, dGe, dAdd, iSub, dAddA, dEq, dNe, eqB, sEq, fInt, gNm, gTp, gsCons, gsNil, dTru, dIsN, dNotN, locAt, isLst, mutK, insC, List.getElem?_cons_zero, List.getElem?_cons_succ, List.set_cons_zero, List.set_cons_succ, List.length_cons, List.length_nil, List.length_set, Option.map_some, Option.map_none, Option.bind_some, if_true, if_false, decide_eq_true_eq, decide_true, decide_false, Nat.zero_lt_succ, Nat.reduceLT, Nat.reduceAdd, and_true, true_and, and_self, Bool.false_eq_true, List.map_cons, List.map_nil, List.cons_append, List.nil_append, List.replicate_succ, List.replicate_zero, Nat.reduceSub, List.append_nil, reduceCtorEq, reduceIte, ne_eq, not_false_eq_true, not_true_eq_false, List.tail_cons, List.head?_cons, sz_le, sz_lt, Nat.reduceLeDiff, Nat.zero_le, ok62_int, Int.reduceLE, Int.reduceNeg, Int.reduceToNat, Bool.and_self, Int.reduceLT, Int.natCast_zero, Int.cast_ofNat_Int, iA, iB, gbb, ak']) ?_
      clear ak ak' dk iA iB okA okB
      have mt := m_told (.ref L.length) [[103, 98], [98]] (L ++ [.lst [strS [103, 98], strS [98]]]) (.inr ⟨_, rfl, last_at⟩) (by decide)
      have mt' : F_law_matches 5 [.tup [.str "told", .ref L.length], .tup [.str "told", .lst [strS [103, 98], strS [98]]]] (L ++ [.lst [strS [103, 98], strS [98]]]) = .ok (.bl true) (L ++ [.lst [strS [103, 98], strS [98]]]) := mt
      obtain ⟨L2, hL2⟩ : ∃ L2, L2 = L ++ [D.lst [strS [103, 98], strS [98]]] := ⟨_, rfl⟩
      rw [← hL2] at mt' ⊢
      refine good_next (env2 := [.val (.scr is), .val (.ref 0), .val (.bl large), .val (.lst (rs.map rowsD)), x4, .val (.int (need rs : Nat)), .val (strS cs), x7, .val (.lst (rs.map pl)), .val (.lst [.lst ((inRow cs rs 0).1.map strS), .lst ((inRow cs rs 0).1.map strS), .lst ((rounds cs rs (maxLen rs)).1.map strS)]), .val (.lst ys), x11, .val (.tup [.str "told", .ref L.length]), x13, x14, x15, .none]) (S2 := L2) (by simp only [q_mVar, q_mCst, q_oVal, q_oLoc, q_mOp2, q_bOf, q_bTru, q_bNot, q_bAnd, q_bOr, q_vAnd, q_vOr, q_vNot, q_mIte, q_mOr, q_aNil, q_aCons, q_aoNil, q_aoCons, q_mTup, q_nLst, q_iSeq, q_iSign, q_iR1, q_iR2, q_iEnumM, q_iRevM, q_iZipM, q_sNext, q_sSeq, q_sExpr, q_sRet, q_sRetN, q_sRetL, q_sIf, q_sSet, q_sSetN, q_sAsg, q_sFor, q_nLc, q_bYes, q_mCall, q_nCall, q_mMeth, q_mMeth0, q_mFld, q_mProp, q_nMake, q_pNone, q_pSome, q_mSl, q_mB, q_mRef, q_mMut, q_mMut0, q_mDGet, q_sPut, q_sFldP, q_sAug, q_mTx, q_mIsT, q_mInK, q_sRaise0, q_mExc, q_sTry, q_iScr, q_nDict, q_mNeg, q_mCallK, q_nCallK, Res.toS, Res.bind, Res.lift, Res.calm, resO, resL, CRes.toR, CRes.toN, CRes.toB, CRes.quiet, cellO, setE, setS, dLt, dLe, dGt, dGe, dAdd, iSub, dAddA, dEq, dNe, eqB, sEq, fInt, gNm, gTp, gsCons, gsNil, dTru, dIsN, dNotN, locAt, isLst, mutK, insC, List.getElem?_cons_zero, List.getElem?_cons_succ, List.set_cons_zero, List.set_cons_succ, List.length_cons, List.length_nil, List.length_set, Option.map_some, Option.map_none, Option.bind_some, if_true, if_false, decide_eq_true_eq, decide_true, decide_false, Nat.zero_lt_succ, Nat.reduceLT, Nat.reduceAdd, and_true, true_and, and_self, Bool.false_eq_true, List.map_cons, List.map_nil, List.cons_append, List.nil_append, List.replicate_succ, List.replicate_zero, Nat.reduceSub, List.append_nil, reduceCtorEq, reduceIte, ne_eq, not_false_eq_true, not_true_eq_false, List.tail_cons, List.head?_cons, sz_le, sz_lt, Nat.reduceLeDiff, Nat.zero_le, ok62_int, Int.reduceLE, Int.reduceNeg, Int.reduceToNat, Bool.and_self, Int.reduceLT, Int.natCast_zero, Int.cast_ofNat_Int, gb2, b1, mt', Bool.not_true]) ?_
      clear mt mt'
      -- the plans are as they were
      have hC : ∃ (x4' x7' : Vf.Slot), (sFor (iR1 (aoCons (oVal (mB fLen (aoCons (oLoc 3) aoNil))) aoNil)) (gNm 4) (sIf (bNot (bTru (oVal (mCall 2 (F_law_matches 5) (aCons (mMeth0 "Plan" "rows" 1 F_Plan_rows (mOp2 dIx (oLoc 7) (oLoc 4))) (aCons (mOp2 dIx (oLoc 3) (oLoc 4)) aNil)))))) (sRet (mCst (.bl false))) sNext)) [.val (.scr is), .val (.ref 0), .val (.bl large), .val (.lst (rs.map rowsD)), x4, .val (.int (need rs : Nat)), .val (strS cs), x7, .val (.lst (rs.map pl)), .val (.lst [.lst ((inRow cs rs 0).1.map strS), .lst ((inRow cs rs 0).1.map strS), .lst ((rounds cs rs (maxLen rs)).1.map strS)]), .val (.lst ys), x11, .val (.tup [.str "told", .ref L.length]), x13, x14, x15, .none] L2 = .next [.val (.scr is), .val (.ref 0), .val (.bl large), .val (.lst (rs.map rowsD)), x4', .val (.int (need rs : Nat)), .val (strS cs), x7', .val (.lst (rs.map pl)), .val (.lst [.lst ((inRow cs rs 0).1.map strS), .lst ((inRow cs rs 0).1.map strS), .lst ((rounds cs rs (maxLen rs)).1.map strS)]), .val (.lst ys), x11, .val (.tup [.str "told", .ref L.length]), x13, x14, x15, .none] L2 ∧ (x7' = .loc (.lst (rs.map pl)) ∨ x7' = .val (.lst (rs.map pl))) := by
        obtain ⟨env', S', eL, x4', x7', rfl, rfl, h7'⟩ := loop_range (g := gNm 4) (body := (sIf (bNot (bTru (oVal (mCall 2 (F_law_matches 5) (aCons (mMeth0 "Plan" "rows" 1 F_Plan_rows (mOp2 dIx (oLoc 7) (oLoc 4))) (aCons (mOp2 dIx (oLoc 3) (oLoc 4)) aNil)))))) (sRet (mCst (.bl false))) sNext)) (lo := 0) (n := rs.length) (env := [.val (.scr is), .val (.ref 0), .val (.bl large), .val (.lst (rs.map rowsD)), x4, .val (.int (need rs : Nat)), .val (strS cs), x7, .val (.lst (rs.map pl)), .val (.lst [.lst ((inRow cs rs 0).1.map strS), .lst ((inRow cs rs 0).1.map strS), .lst ((rounds cs rs (maxLen rs)).1.map strS)]), .val (.lst ys), x11, .val (.tup [.str "told", .ref L.length]), x13, x14, x15, .none]) (S := L2)
          (fun k env' S' => ∃ (x4' x7' : Vf.Slot), env' = [.val (.scr is), .val (.ref 0), .val (.bl large), .val (.lst (rs.map rowsD)), x4', .val (.int (need rs : Nat)), .val (strS cs), x7', .val (.lst (rs.map pl)), .val (.lst [.lst ((inRow cs rs 0).1.map strS), .lst ((inRow cs rs 0).1.map strS), .lst ((rounds cs rs (maxLen rs)).1.map strS)]), .val (.lst ys), x11, .val (.tup [.str "told", .ref L.length]), x13, x14, x15, .none] ∧ S' = L2 ∧ (x7' = .loc (.lst (rs.map pl)) ∨ x7' = .val (.lst (rs.map pl))))
          ⟨x4, x7, rfl, rfl, h7⟩ fun i env S1 hi hI => by
            obtain ⟨x4', x7', rfl, rfl, h7'⟩ := hI
            have hx : rs[i]? = some rs[i] := List.getElem?_eq_getElem hi
            have hm : rs[i] ∈ rs := List.getElem_mem hi
            generalize rs[i] = r at hx hm
            have e1 := ix_L (xs := rs.map pl) (i := 0 + (i : Int)) (x := pl r) (by omega) (by rw [List.getElem?_map, show (0 + (i : Int)).toNat = i by omega, hx]; rfl)
            have e2 := ix_L (xs := rs.map rowsD) (i := 0 + (i : Int)) (x := rowsD r) (by omega) (by rw [List.getElem?_map, show (0 + (i : Int)).toNat = i by omega, hx]; rfl)
            have e3 := rows_ok r (ps.len r hm) S1
            have e4 : insOf "Plan" "rows" (pl r) = true := by
              show (decide (("Plan" : Str) = "Plan") && decide (("rows" : Str) ∉ (["go_rows", "met_rows"] : List Str))) = true
              decide +kernel
            have rl := ps.len r hm
            have e5 := m_rows r (rowsD r) S1 (.inl rfl) (by omega) fun x hx => by
              obtain ⟨j, hj, e⟩ := List.mem_iff_getElem.mp hx
              have := row_len (ps.ok r hm) (k := j) (r := x) (by rw [List.getElem?_eq_getElem hj, e])
              omega
            refine ⟨[.val (.scr is), .val (.ref 0), .val (.bl large), .val (.lst (rs.map rowsD)), .val (.int (0 + (i : Int))), .val (.int (need rs : Nat)), .val (strS cs), x7', .val (.lst (rs.map pl)), .val (.lst [.lst ((inRow cs rs 0).1.map strS), .lst ((inRow cs rs 0).1.map strS), .lst ((rounds cs rs (maxLen rs)).1.map strS)]), .val (.lst ys), x11, .val (.tup [.str "told", .ref L.length]), x13, x14, x15, .none], S1, ?_, _, _, rfl, rfl, h7'⟩
            rcases h7' with rfl | rfl
            · simp only [q_mVar, q_mCst, q_oVal, q_oLoc, q_mOp2, q_bOf, q_bTru, q_bNot, q_bAnd, q_bOr, q_vAnd, q_vOr, q_vNot, q_mIte, q_mOr, q_aNil, q_aCons, q_aoNil, q_aoCons, q_mTup, q_nLst, q_iSeq, q_iSign, q_iR1, q_iR2, q_iEnumM, q_iRevM, q_iZipM, q_sNext, q_sSeq, q_sExpr, q_sRet, q_sRetN, q_sRetL, q_sIf, q_sSet, q_sSetN, q_sAsg, q_sFor, q_nLc, q_bYes, q_mCall, q_nCall, q_mMeth, q_mMeth0, q_mFld, q_mProp, q_nMake, q_pNone, q_pSome, q_mSl, q_mB, q_mRef, q_mMut, q_mMut0, q_mDGet, q_sPut, q_sFldP, q_sAug, q_mTx, q_mIsT, q_mInK, q_sRaise0, q_mExc, q_sTry, q_iScr, q_nDict, q_mNeg, q_mCallK, q_nCallK, Res.toS, Res.bind, Res.lift, Res.calm, resO, resL, CRes.toR, CRes.toN, CRes.toB, CRes.quiet, cellO, setE, setS, dLt, dLe, dGt, dGe, dAdd, iSub, dAddA, dEq, dNe, eqB, sEq, fInt, gNm, gTp, gsCons, gsNil, dTru, dIsN, dNotN, locAt, isLst, mutK, insC, List.getElem?_cons_zero, List.getElem?_cons_succ, List.set_cons_zero, List.set_cons_succ, List.length_cons, List.length_nil, List.length_set, Option.map_some, Option.map_none, Option.bind_some, if_true, if_false, decide_eq_true_eq, decide_true, decide_false, Nat.zero_lt_succ, Nat.reduceLT, Nat.reduceAdd, and_true, true_and, and_self, Bool.false_eq_true, List.map_cons, List.map_nil, List.cons_append, List.nil_append, List.replicate_succ, List.replicate_zero, Nat.reduceSub, List.append_nil, reduceCtorEq, reduceIte, ne_eq, not_false_eq_true, not_true_eq_false, List.tail_cons, List.head?_cons, sz_le, sz_lt, Nat.reduceLeDiff, Nat.zero_le, ok62_int, Int.reduceLE, Int.reduceNeg, Int.reduceToNat, Bool.and_self, Int.reduceLT, Int.natCast_zero, Int.cast_ofNat_Int, turnF, e1, e2, e3, e4, e5, Bool.not_true]
            · simp only [q_mVar, q_mCst, q_oVal, q_oLoc, q_mOp2, q_bOf, q_bTru, q_bNot, q_bAnd, q_bOr, q_vAnd, q_vOr, q_vNot, q_mIte, q_mOr, q_aNil, q_aCons, q_aoNil, q_aoCons, q_mTup, q_nLst, q_iSeq, q_iSign, q_iR1, q_iR2, q_iEnumM, q_iRevM, q_iZipM, q_sNext, q_sSeq, q_sExpr, q_sRet, q_sRetN, q_sRetL, q_sIf, q_sSet, q_sSetN, q_sAsg, q_sFor, q_nLc, q_bYes, q_mCall, q_nCall, q_mMeth, q_mMeth0, q_mFld, q_mProp, q_nMake, q_pNone, q_pSome, q_mSl, q_mB, q_mRef, q_mMut, q_mMut0, q_mDGet, q_sPut, q_sFldP, q_sAug, q_mTx, q_mIsT, q_mInK, q_sRaise0, q_mExc, q_sTry, q_iScr, q_nDict, q_mNeg, q_mCallK, q_nCallK, Res.toS, Res.bind, Res.lift, Res.calm, resO, resL, CRes.toR, CRes.toN, CRes.toB, CRes.quiet, cellO, setE, setS, dLt, dLe, dGt, dGe, dAdd, iSub, dAddA, dEq, dNe, eqB, sEq, fInt, gNm, gTp, gsCons, gsNil, dTru, dIsN, dNotN, locAt, isLst, mutK, insC, List.getElem?_cons_zero, List.getElem?_cons_succ, List.set_cons_zero, List.set_cons_succ, List.length_cons, List.length_nil, List.length_set, Option.map_some, Option.map_none, Option.bind_some, if_true, if_false, decide_eq_true_eq, decide_true, decide_false, Nat.zero_lt_succ, Nat.reduceLT, Nat.reduceAdd, and_true, true_and, and_self, Bool.false_eq_true, List.map_cons, List.map_nil, List.cons_append, List.nil_append, List.replicate_succ, List.replicate_zero, Nat.reduceSub, List.append_nil, reduceCtorEq, reduceIte, ne_eq, not_false_eq_true, not_true_eq_false, List.tail_cons, List.head?_cons, sz_le, sz_lt, Nat.reduceLeDiff, Nat.zero_le, ok62_int, Int.reduceLE, Int.reduceNeg, Int.reduceToNat, Bool.and_self, Int.reduceLT, Int.natCast_zero, Int.cast_ofNat_Int, turnF, e1, e2, e3, e4, e5, Bool.not_true]
        exact ⟨x4', x7', by simp only [q_mVar, q_mCst, q_oVal, q_oLoc, q_mOp2, q_bOf, q_bTru, q_bNot, q_bAnd, q_bOr, q_vAnd, q_vOr, q_vNot, q_mIte, q_mOr, q_aNil, q_aCons, q_aoNil, q_aoCons, q_mTup, q_nLst, q_iSeq, q_iSign, q_iR1, q_iR2, q_iEnumM, q_iRevM, q_iZipM, q_sNext, q_sSeq, q_sExpr, q_sRet, q_sRetN, q_sRetL, q_sIf, q_sSet, q_sSetN, q_sAsg, q_sFor, q_nLc, q_bYes, q_mCall, q_nCall, q_mMeth, q_mMeth0, q_mFld, q_mProp, q_nMake, q_pNone, q_pSome, q_mSl, q_mB, q_mRef, q_mMut, q_mMut0, q_mDGet, q_sPut, q_sFldP, q_sAug, q_mTx, q_mIsT, q_mInK, q_sRaise0, q_mExc, q_sTry, q_iScr, q_nDict, q_mNeg, q_mCallK, q_nCallK, Res.toS, Res.bind, Res.lift, Res.calm, resO, resL, CRes.toR, CRes.toN, CRes.toB, CRes.quiet, cellO, setE, setS, dLt, dLe, dGt, dGe, dAdd, iSub, dAddA, dEq, dNe, eqB, sEq, fInt, gNm, gTp, gsCons, gsNil, dTru, dIsN, dNotN, locAt, isLst, mutK, insC, List.getElem?_cons_zero, List.getElem?_cons_succ, List.set_cons_zero, List.set_cons_succ, List.length_cons, List.length_nil, List.length_set, Option.map_some, Option.map_none, Option.bind_some, if_true, if_false, decide_eq_true_eq, decide_true, decide_false, Nat.zero_lt_succ, Nat.reduceLT, Nat.reduceAdd, and_true, true_and, and_self, Bool.false_eq_true, List.map_cons, List.map_nil, List.cons_append, List.nil_append, List.replicate_succ, List.replicate_zero, Nat.reduceSub, List.append_nil, reduceCtorEq, reduceIte, ne_eq, not_false_eq_true, not_true_eq_false, List.tail_cons, List.head?_cons, sz_le, sz_lt, Nat.reduceLeDiff, Nat.zero_le, ok62_int, Int.reduceLE, Int.reduceNeg, Int.reduceToNat, Bool.and_self, Int.reduceLT, Int.natCast_zero, Int.cast_ofNat_Int, len_lst, List.length_map, ok62_nat (show rs.length ≤ 10000000 by omega), Int.toNat_natCast, eL], h7'⟩
      obtain ⟨x4, x7, hC, h7⟩ := hC
      refine good_next hC ?_
      clear hC
      -- the end
      have htk : (cs.take (need rs)).length = need rs := by rw [List.length_take]; omega
      have ak := ask_ok rs (cs.take (need rs)) 0 ps.len ne (by omega) (by omega) (by omega) L2
      have hdu : due (cs.take (need rs)) rs (decide ((0 : Int) = 2)) = (inRow cs rs 0).1 := by
        show (inRow (cs.take (need rs)) rs 0).1 = _
        rw [inRow_take cs (need rs) rs 0 (by omega)]
      rw [hdu] at ak
      have mt := m_told (.ref L2.length) (inRow cs rs 0).1 (L2 ++ [.lst ((inRow cs rs 0).1.map strS)]) (.inr ⟨_, rfl, last_at⟩) (by omega)
      have sl := slTo_S (a := cs) (j := need rs) (by omega)
      have i0 : ∀ a b c : D, dIx (.lst [a, b, c]) (.int 0) = some a := fun a b c => rfl
      refine ⟨L2 ++ [.lst ((inRow cs rs 0).1.map strS)], ?_⟩
      rcases h7 with rfl | rfl
      · simp only [q_mVar, q_mCst, q_oVal, q_oLoc, q_mOp2, q_bOf, q_bTru, q_bNot, q_bAnd, q_bOr, q_vAnd, q_vOr, q_vNot, q_mIte, q_mOr, q_aNil, q_aCons, q_aoNil, q_aoCons, q_mTup, q_nLst, q_iSeq, q_iSign, q_iR1, q_iR2, q_iEnumM, q_iRevM, q_iZipM, q_sNext, q_sSeq, q_sExpr, q_sRet, q_sRetN, q_sRetL, q_sIf, q_sSet, q_sSetN, q_sAsg, q_sFor, q_nLc, q_bYes, q_mCall, q_nCall, q_mMeth, q_mMeth0, q_mFld, q_mProp, q_nMake, q_pNone, q_pSome, q_mSl, q_mB, q_mRef, q_mMut, q_mMut0, q_mDGet, q_sPut, q_sFldP, q_sAug, q_mTx, q_mIsT, q_mInK, q_sRaise0, q_mExc, q_sTry, q_iScr, q_nDict, q_mNeg, q_mCallK, q_nCallK, Res.toS, Res.bind, Res.lift, Res.calm, resO, resL, CRes.toR, CRes.toN, CRes.toB, CRes.quiet, cellO, setE, setS, dLt, dLe, dGt, dGe, dAdd, iSub, dAddA, dEq, dNe, eqB, sEq, fInt, gNm, gTp, gsCons, gsNil, dTru, dIsN, dNotN, locAt, isLst, mutK, insC, List.getElem?_cons_zero, List.getElem?_cons_succ, List.set_cons_zero, List.set_cons_succ, List.length_cons, List.length_nil, List.length_set, Option.map_some, Option.map_none, Option.bind_some, if_true, if_false, decide_eq_true_eq, decide_true, decide_false, Nat.zero_lt_succ, Nat.reduceLT, Nat.reduceAdd, and_true, true_and, and_self, Bool.false_eq_true, List.map_cons, List.map_nil, List.cons_append, List.nil_append, List.replicate_succ, List.replicate_zero, Nat.reduceSub, List.append_nil, reduceCtorEq, reduceIte, ne_eq, not_false_eq_true, not_true_eq_false, List.tail_cons, List.head?_cons, sz_le, sz_lt, Nat.reduceLeDiff, Nat.zero_le, ok62_int, Int.reduceLE, Int.reduceNeg, Int.reduceToNat, Bool.and_self, Int.reduceLT, Int.natCast_zero, Int.cast_ofNat_Int, len_lst, sl, ak, i0, mt, endOf]
      · simp only [q_mVar, q_mCst, q_oVal, q_oLoc, q_mOp2, q_bOf, q_bTru, q_bNot, q_bAnd, q_bOr, q_vAnd, q_vOr, q_vNot, q_mIte, q_mOr, q_aNil, q_aCons, q_aoNil, q_aoCons, q_mTup, q_nLst, q_iSeq, q_iSign, q_iR1, q_iR2, q_iEnumM, q_iRevM, q_iZipM, q_sNext, q_sSeq, q_sExpr, q_sRet, q_sRetN, q_sRetL, q_sIf, q_sSet, q_sSetN, q_sAsg, q_sFor, q_nLc, q_bYes, q_mCall, q_nCall, q_mMeth, q_mMeth0, q_mFld, q_mProp, q_nMake, q_pNone, q_pSome, q_mSl, q_mB, q_mRef, q_mMut, q_mMut0, q_mDGet, q_sPut, q_sFldP, q_sAug, q_mTx, q_mIsT, q_mInK, q_sRaise0, q_mExc, q_sTry, q_iScr, q_nDict, q_mNeg, q_mCallK, q_nCallK, Res.toS, Res.bind, Res.lift, Res.calm, resO, resL, CRes.toR, CRes.toN, CRes.toB, CRes.quiet, cellO, setE, setS, dLt, dLe, dGt, dGe, dAdd, iSub, dAddA, dEq, dNe, eqB, sEq, fInt, gNm, gTp, gsCons, gsNil, dTru, dIsN, dNotN, locAt, isLst, mutK, insC, List.getElem?_cons_zero, List.getElem?_cons_succ, List.set_cons_zero, List.set_cons_succ, List.length_cons, List.length_nil, List.length_set, Option.map_some, Option.map_none, Option.bind_some, if_true, if_false, decide_eq_true_eq, decide_true, decide_false, Nat.zero_lt_succ, Nat.reduceLT, Nat.reduceAdd, and_true, true_and, and_self, Bool.false_eq_true, List.map_cons, List.map_nil, List.cons_append, List.nil_append, List.replicate_succ, List.replicate_zero, Nat.reduceSub, List.append_nil, reduceCtorEq, reduceIte, ne_eq, not_false_eq_true, not_true_eq_false, List.tail_cons, List.head?_cons, sz_le, sz_lt, Nat.reduceLeDiff, Nat.zero_le, ok62_int, Int.reduceLE, Int.reduceNeg, Int.reduceToNat, Bool.and_self, Int.reduceLT, Int.natCast_zero, Int.cast_ofNat_Int, len_lst, sl, ak, i0, mt, endOf]
    simp only [q_mVar, q_mCst, q_oVal, q_oLoc, q_mOp2, q_bOf, q_bTru, q_bNot, q_bAnd, q_bOr, q_vAnd, q_vOr, q_vNot, q_mIte, q_mOr, q_aNil, q_aCons, q_aoNil, q_aoCons, q_mTup, q_nLst, q_iSeq, q_iSign, q_iR1, q_iR2, q_iEnumM, q_iRevM, q_iZipM, q_sNext, q_sSeq, q_sExpr, q_sRet, q_sRetN, q_sRetL, q_sIf, q_sSet, q_sSetN, q_sAsg, q_sFor, q_nLc, q_bYes, q_mCall, q_nCall, q_mMeth, q_mMeth0, q_mFld, q_mProp, q_nMake, q_pNone, q_pSome, q_mSl, q_mB, q_mRef, q_mMut, q_mMut0, q_mDGet, q_sPut, q_sFldP, q_sAug, q_mTx, q_mIsT, q_mInK, q_sRaise0, q_mExc, q_sTry, q_iScr, q_nDict, q_mNeg, q_mCallK, q_nCallK, Res.toS, Res.bind, Res.lift, Res.calm, resO, resL, CRes.toR, CRes.toN, CRes.toB, CRes.quiet, cellO, setE, setS, dLt, dLe, dGt, dGe, dAdd, iSub, dAddA, dEq, dNe, eqB, sEq, fInt, gNm, gTp, gsCons, gsNil, dTru, dIsN, dNotN, locAt, isLst, mutK, insC, List.getElem?_cons_zero, List.getElem?_cons_succ, List.set_cons_zero, List.set_cons_succ, List.length_cons, List.length_nil, List.length_set, Option.map_some, Option.map_none, Option.bind_some, if_true, if_false, decide_eq_true_eq, decide_true, decide_false, Nat.zero_lt_succ, Nat.reduceLT, Nat.reduceAdd, and_true, true_and, and_self, Bool.false_eq_true, List.map_cons, List.map_nil, List.cons_append, List.nil_append, List.replicate_succ, List.replicate_zero, Nat.reduceSub, List.append_nil, reduceCtorEq, reduceIte, ne_eq, not_false_eq_true, not_true_eq_false, List.tail_cons, List.head?_cons, sz_le, sz_lt, Nat.reduceLeDiff, Nat.zero_le, ok62_int, Int.reduceLE, Int.reduceNeg, Int.reduceToNat, Bool.and_self, Int.reduceLT, Int.natCast_zero, Int.cast_ofNat_Int]
    generalize hL : loopF _ _ _ _ _ = L
    obtain ⟨env', S', rfl, x7, x11, x14, G, rfl, rfl, h7⟩ : ∃ env' S', L = .next env' S' ∧ ∃ (x7 x11 x14 : Vf.Slot) (G : List D), env' = [.val (.scr is), .val (.ref 0), .val (.bl large), .val (.lst (rs.map rowsD)), x4, .val (.int (need rs : Nat)), .val (strS cs), x7, .val (.lst (rs.map pl)), .val (.lst [.lst ((inRow cs rs 0).1.map strS), .lst ((inRow cs rs 0).1.map strS), .lst ((rounds cs rs (maxLen rs)).1.map strS)]), .val (.lst ys), x11, .none, x13, x14, .none, .none] ∧ S' = st6 :: G ∧ (x7 = .loc (.lst (rs.map pl)) ∨ x7 = .val (.lst (rs.map pl))) := by
      rw [← hL]
      refine loop_ds (fun k env' S' => ∃ (x7 x11 x14 : Vf.Slot) (G : List D), env' = [.val (.scr is), .val (.ref 0), .val (.bl large), .val (.lst (rs.map rowsD)), x4, .val (.int (need rs : Nat)), .val (strS cs), x7, .val (.lst (rs.map pl)), .val (.lst [.lst ((inRow cs rs 0).1.map strS), .lst ((inRow cs rs 0).1.map strS), .lst ((rounds cs rs (maxLen rs)).1.map strS)]), .val (.lst ys), x11, .none, x13, x14, .none, .none] ∧ S' = st6 :: G ∧ (x7 = .loc (.lst (rs.map pl)) ∨ x7 = .val (.lst (rs.map pl))))
        ⟨_, _, _, [], rfl, rfl, .inl rfl⟩ fun k d env S1 hd hI => ?_
      obtain ⟨x7, x11, x14, G, rfl, hS, h7⟩ := hI
      obtain ⟨h, rfl, hh⟩ := hys d (List.mem_of_getElem? hd)
      have ak := ask_ok rs cs h ps.len ne hn hc (by omega) S1
      have dx : dIx (.lst [.lst ((inRow cs rs 0).1.map strS), .lst ((inRow cs rs 0).1.map strS), .lst ((rounds cs rs (maxLen rs)).1.map strS)]) (.int h) = some (.lst ((due cs rs (decide (h = 2))).map strS)) := by
        rcases hh with rfl | rfl | rfl <;> rfl
      have hlen := hdl (decide (h = 2))
      have hpos : 1 ≤ rs.length := List.length_pos_iff.mpr ne
      generalize due cs rs (decide (h = 2)) = du at ak dx hlen
      have mt := m_told (.ref S1.length) du (S1 ++ [.lst (du.map strS)]) (.inr ⟨_, rfl, last_at⟩) (by omega)
      have ap := app_eq (xs := du.map strS) (y := .str "g") (by rw [List.length_map]; omega)
      have pt := put_L (xs := du.map strS ++ [D.str "g"]) (i := 0) (v := .str "x") (by omega) (by simp)
      have fin : ∃ x7 x11 x14 G2, [.val (.scr is), .val (.ref 0), .val (.bl large), .val (.lst (rs.map rowsD)), x4, .val (.int (need rs : Nat)), .val (strS cs), .val (.lst (rs.map pl)), .val (.lst (rs.map pl)), .val (.lst [.lst ((inRow cs rs 0).1.map strS), .lst ((inRow cs rs 0).1.map strS), .lst ((rounds cs rs (maxLen rs)).1.map strS)]), .val (.lst ys), .val (.int h), .none, x13, .val (.tup [.str "told", .ref S1.length]), .none, .none] = [.val (.scr is), .val (.ref 0), .val (.bl large), .val (.lst (rs.map rowsD)), x4, .val (.int (need rs : Nat)), .val (strS cs), x7, .val (.lst (rs.map pl)), .val (.lst [.lst ((inRow cs rs 0).1.map strS), .lst ((inRow cs rs 0).1.map strS), .lst ((rounds cs rs (maxLen rs)).1.map strS)]), .val (.lst ys), x11, .none, x13, x14, .none, .none] ∧ S1 ++ [.lst ((du.map strS ++ [D.str "g"]).set 0 (D.str "x"))] = st6 :: G2 ∧ (x7 = .loc (.lst (rs.map pl)) ∨ x7 = .val (.lst (rs.map pl))) :=
        ⟨_, _, _, G ++ [.lst ((du.map strS ++ [D.str "g"]).set 0 (D.str "x"))], rfl, by rw [hS]; rfl, .inr rfl⟩
      refine ⟨_, _, ?_, fin⟩
      rcases h7 with rfl | rfl
      · simp only [q_mVar, q_mCst, q_oVal, q_oLoc, q_mOp2, q_bOf, q_bTru, q_bNot, q_bAnd, q_bOr, q_vAnd, q_vOr, q_vNot, q_mIte, q_mOr, q_aNil, q_aCons, q_aoNil, q_aoCons, q_mTup, q_nLst, q_iSeq, q_iSign, q_iR1, q_iR2, q_iEnumM, q_iRevM, q_iZipM, q_sNext, q_sSeq, q_sExpr, q_sRet, q_sRetN, q_sRetL, q_sIf, q_sSet, q_sSetN, q_sAsg, q_sFor, q_nLc, q_bYes, q_mCall, q_nCall, q_mMeth, q_mMeth0, q_mFld, q_mProp, q_nMake, q_pNone, q_pSome, q_mSl, q_mB, q_mRef, q_mMut, q_mMut0, q_mDGet, q_sPut, q_sFldP, q_sAug, q_mTx, q_mIsT, q_mInK, q_sRaise0, q_mExc, q_sTry, q_iScr, q_nDict, q_mNeg, q_mCallK, q_nCallK, Res.toS, Res.bind, Res.lift, Res.calm, resO, resL, CRes.toR, CRes.toN, CRes.toB, CRes.quiet, cellO, setE, setS, dLt, dLe, dGt, dGe, dAdd, iSub, dAddA, dEq, dNe, eqB, sEq, fInt, gNm, gTp, gsCons, gsNil, dTru, dIsN, dNotN, locAt, isLst, mutK, insC, List.getElem?_cons_zero, List.getElem?_cons_succ, List.set_cons_zero, List.set_cons_succ, List.length_cons, List.length_nil, List.length_set, Option.map_some, Option.map_none, Option.bind_some, if_true, if_false, decide_eq_true_eq, decide_true, decide_false, Nat.zero_lt_succ, Nat.reduceLT, Nat.reduceAdd, and_true, true_and, and_self, Bool.false_eq_true, List.map_cons, List.map_nil, List.cons_append, List.nil_append, List.replicate_succ, List.replicate_zero, Nat.reduceSub, List.append_nil, reduceCtorEq, reduceIte, ne_eq, not_false_eq_true, not_true_eq_false, List.tail_cons, List.head?_cons, sz_le, sz_lt, Nat.reduceLeDiff, Nat.zero_le, ok62_int, Int.reduceLE, Int.reduceNeg, Int.reduceToNat, Bool.and_self, Int.reduceLT, Int.natCast_zero, Int.cast_ofNat_Int, turnF, ak, dx, mt, tix, last_at, last_set, ap, pt, Bool.not_true]
      · simp only [q_mVar, q_mCst, q_oVal, q_oLoc, q_mOp2, q_bOf, q_bTru, q_bNot, q_bAnd, q_bOr, q_vAnd, q_vOr, q_vNot, q_mIte, q_mOr, q_aNil, q_aCons, q_aoNil, q_aoCons, q_mTup, q_nLst, q_iSeq, q_iSign, q_iR1, q_iR2, q_iEnumM, q_iRevM, q_iZipM, q_sNext, q_sSeq, q_sExpr, q_sRet, q_sRetN, q_sRetL, q_sIf, q_sSet, q_sSetN, q_sAsg, q_sFor, q_nLc, q_bYes, q_mCall, q_nCall, q_mMeth, q_mMeth0, q_mFld, q_mProp, q_nMake, q_pNone, q_pSome, q_mSl, q_mB, q_mRef, q_mMut, q_mMut0, q_mDGet, q_sPut, q_sFldP, q_sAug, q_mTx, q_mIsT, q_mInK, q_sRaise0, q_mExc, q_sTry, q_iScr, q_nDict, q_mNeg, q_mCallK, q_nCallK, Res.toS, Res.bind, Res.lift, Res.calm, resO, resL, CRes.toR, CRes.toN, CRes.toB, CRes.quiet, cellO, setE, setS, dLt, dLe, dGt, dGe, dAdd, iSub, dAddA, dEq, dNe, eqB, sEq, fInt, gNm, gTp, gsCons, gsNil, dTru, dIsN, dNotN, locAt, isLst, mutK, insC, List.getElem?_cons_zero, List.getElem?_cons_succ, List.set_cons_zero, List.set_cons_succ, List.length_cons, List.length_nil, List.length_set, Option.map_some, Option.map_none, Option.bind_some, if_true, if_false, decide_eq_true_eq, decide_true, decide_false, Nat.zero_lt_succ, Nat.reduceLT, Nat.reduceAdd, and_true, true_and, and_self, Bool.false_eq_true, List.map_cons, List.map_nil, List.cons_append, List.nil_append, List.replicate_succ, List.replicate_zero, Nat.reduceSub, List.append_nil, reduceCtorEq, reduceIte, ne_eq, not_false_eq_true, not_true_eq_false, List.tail_cons, List.head?_cons, sz_le, sz_lt, Nat.reduceLeDiff, Nat.zero_le, ok62_int, Int.reduceLE, Int.reduceNeg, Int.reduceToNat, Bool.and_self, Int.reduceLT, Int.natCast_zero, Int.cast_ofNat_Int, turnF, ak, dx, mt, tix, last_at, last_set, ap, pt, Bool.not_true]
    exact ⟨x7, x11, x14, G, rfl, h7⟩
  have ho : Ok62 (1 + v2) = true := ok62_int (by omega) (by omega)
  simp only [q_mVar, q_mCst, q_oVal, q_oLoc, q_mOp2, q_bOf, q_bTru, q_bNot, q_bAnd, q_bOr, q_vAnd, q_vOr, q_vNot, q_mIte, q_mOr, q_aNil, q_aCons, q_aoNil, q_aoCons, q_mTup, q_nLst, q_iSeq, q_iSign, q_iR1, q_iR2, q_iEnumM, q_iRevM, q_iZipM, q_sNext, q_sSeq, q_sExpr, q_sRet, q_sRetN, q_sRetL, q_sIf, q_sSet, q_sSetN, q_sAsg, q_sFor, q_nLc, q_bYes, q_mCall, q_nCall, q_mMeth, q_mMeth0, q_mFld, q_mProp, q_nMake, q_pNone, q_pSome, q_mSl, q_mB, q_mRef, q_mMut, q_mMut0, q_mDGet, q_sPut, q_sFldP, q_sAug, q_mTx, q_mIsT, q_mInK, q_sRaise0, q_mExc, q_sTry, q_iScr, q_nDict, q_mNeg, q_mCallK, q_nCallK, Res.toS, Res.bind, Res.lift, Res.calm, resO, resL, CRes.toR, CRes.toN, CRes.toB, CRes.quiet, cellO, setE, setS, dLt, dLe, dGt, dGe, dAdd, iSub, dAddA, dEq, dNe, eqB, sEq, fInt, gNm, gTp, gsCons, gsNil, dTru, dIsN, dNotN, locAt, isLst, mutK, insC, List.getElem?_cons_zero, List.getElem?_cons_succ, List.set_cons_zero, List.set_cons_succ, List.length_cons, List.length_nil, List.length_set, Option.map_some, Option.map_none, Option.bind_some, if_true, if_false, decide_eq_true_eq, decide_true, decide_false, Nat.zero_lt_succ, Nat.reduceLT, Nat.reduceAdd, and_true, true_and, and_self, Bool.false_eq_true, List.map_cons, List.map_nil, List.cons_append, List.nil_append, List.replicate_succ, List.replicate_zero, Nat.reduceSub, List.append_nil, reduceCtorEq, reduceIte, ne_eq, not_false_eq_true, not_true_eq_false, List.tail_cons, List.head?_cons, sz_le, sz_lt, Nat.reduceLeDiff, Nat.zero_le, ok62_int, Int.reduceLE, Int.reduceNeg, Int.reduceToNat, Bool.and_self, Int.reduceLT, Int.natCast_zero, Int.cast_ofNat_Int, t2, ho]
  generalize hL : loopF _ _ _ _ _ = L
  obtain ⟨env', S', rfl, rs, st3, x4, x13, rfl, rfl, b1, b2, b3⟩ : ∃ env' S', L = .next env' S' ∧ ∃ (rs : List Rows) (st3 : D) (x4 x13 : Vf.Slot), env' = [.val (.scr is), .val (.ref 0), .val (.bl large), .loc (.lst (rs.map rowsD)), x4, .none, .none, .none, .none, .none, .none, .none, .none, x13, .none, .none, .none] ∧ S' = [st3] ∧ SOk (2 + 300 * (1 + v2).toNat) st3 ∧ PsOk rs ∧ rs.length = (1 + v2).toNat := by
    rw [← hL]
    refine loop_range (fun k env' S' => ∃ (rs : List Rows) (st3 : D) (x4 x13 : Vf.Slot), env' = [.val (.scr is), .val (.ref 0), .val (.bl large), .loc (.lst (rs.map rowsD)), x4, .none, .none, .none, .none, .none, .none, .none, .none, x13, .none, .none, .none] ∧ S' = [st3] ∧ SOk (2 + 300 * k) st3 ∧ PsOk rs ∧ rs.length = k)
      ⟨[], st2, .none, .none, rfl, rfl, so2.mono (by omega), ⟨by simp, by simp⟩, rfl⟩ fun k env S1 hk hI => ?_
    obtain ⟨rs, st3, x4, x13, rfl, rfl, b1, b2, b3⟩ := hI
    obtain ⟨w, st4, u1, so4, wp, wl, _⟩ := take_ok [] 5 b1 (by omega) (lt_big (by decide))
    have wl := wl (by decide)
    obtain ⟨z, st5, u2, so5, zp, zl, _⟩ := take_ok [] 3 so4 (by omega) (lt_big (by decide))
    obtain ⟨m, rfl⟩ : ∃ m : Nat, w = (m : Int) := ⟨w.toNat, by omega⟩
    have fin : ∀ (m2 : Nat), m2 ≤ 12 → ∃ rows st', F_law_plan_rows [.ref 0, .int m2, .bl (decide (z = 0))] [st5] = .new (rowsD rows) [st'] ∧ SOk (2 + 300 * (k + 1)) st' ∧ OkR rows ∧ rows.length ≤ 12 := by
      intro m2 hm2
      obtain ⟨rows, st', q1, q2, q3, q4⟩ := plan_rows_ok [] m2 (decide (z = 0)) so5 hm2 (by omega)
      exact ⟨rows, st', q1, q2.mono (by omega), q3, by omega⟩
    have ps2 : ∀ rows, OkR rows → rows.length ≤ 12 → PsOk (rs ++ [rows]) := fun rows h1 h2 => ⟨fun r hr => by
      rcases List.mem_append.mp hr with h | h
      · exact b2.ok r h
      · rw [List.mem_singleton.mp h]; exact h1, fun r hr => by
      rcases List.mem_append.mp hr with h | h
      · exact b2.len r h
      · rw [List.mem_singleton.mp h]; exact h2⟩
    have ap : ∀ d, fApp (.lst (rs.map rowsD)) [d] = some (.lst (rs.map rowsD ++ [d]), .non) := fun d => app_eq (by rw [List.length_map]; omega)
    cases large with
    | true =>
      obtain ⟨rows, st6, q1, q2, q3, q4⟩ := fin 12 (Nat.le_refl _)
      have q1' : F_law_plan_rows [.ref 0, .int 12, .bl (decide (z = 0))] [st5] = .new (rowsD rows) [st6] := q1
      exact ⟨_, _, by simp only [q_mVar, q_mCst, q_oVal, q_oLoc, q_mOp2, q_bOf, q_bTru, q_bNot, q_bAnd, q_bOr, q_vAnd, q_vOr, q_vNot, q_mIte, q_mOr, q_aNil, q_aCons, q_aoNil, q_aoCons, q_mTup, q_nLst, q_iSeq, q_iSign, q_iR1, q_iR2, q_iEnumM, q_iRevM, q_iZipM, q_sNext, q_sSeq, q_sExpr, q_sRet, q_sRetN, q_sRetL, q_sIf, q_sSet, q_sSetN, q_sAsg, q_sFor, q_nLc, q_bYes, q_mCall, q_nCall, q_mMeth, q_mMeth0, q_mFld, q_mProp, q_nMake, q_pNone, q_pSome, q_mSl, q_mB, q_mRef, q_mMut, q_mMut0, q_mDGet, q_sPut, q_sFldP, q_sAug, q_mTx, q_mIsT, q_mInK, q_sRaise0, q_mExc, q_sTry, q_iScr, q_nDict, q_mNeg, q_mCallK, q_nCallK, Res.toS, Res.bind, Res.lift, Res.calm, resO, resL, CRes.toR, CRes.toN, CRes.toB, CRes.quiet, cellO, setE, setS, dLt, dLe, dGt, dGe, dAdd, iSub, dAddA, dEq, dNe, eqB, sEq, fInt, gNm, gTp, gsCons, gsNil, dTru, dIsN, dNotN, locAt, isLst, mutK, insC, List.getElem?_cons_zero, List.getElem?_cons_succ, List.set_cons_zero, List.set_cons_succ, List.length_cons, List.length_nil, List.length_set, Option.map_some, Option.map_none, Option.bind_some, if_true, if_false, decide_eq_true_eq, decide_true, decide_false, Nat.zero_lt_succ, Nat.reduceLT, Nat.reduceAdd, and_true, true_and, and_self, Bool.false_eq_true, List.map_cons, List.map_nil, List.cons_append, List.nil_append, List.replicate_succ, List.replicate_zero, Nat.reduceSub, List.append_nil, reduceCtorEq, reduceIte, ne_eq, not_false_eq_true, not_true_eq_false, List.tail_cons, List.head?_cons, sz_le, sz_lt, Nat.reduceLeDiff, Nat.zero_le, ok62_int, Int.reduceLE, Int.reduceNeg, Int.reduceToNat, Bool.and_self, Int.reduceLT, Int.natCast_zero, Int.cast_ofNat_Int, turnF, u1, u2, q1', ap] <;> rfl, rs ++ [rows], st6, _, _, by rw [List.map_append]; rfl, rfl, q2, ps2 rows q3 q4, by simp [b3]⟩
    | false =>
      obtain ⟨rows, st6, q1, q2, q3, q4⟩ := fin m (by omega)
      exact ⟨_, _, by simp only [q_mVar, q_mCst, q_oVal, q_oLoc, q_mOp2, q_bOf, q_bTru, q_bNot, q_bAnd, q_bOr, q_vAnd, q_vOr, q_vNot, q_mIte, q_mOr, q_aNil, q_aCons, q_aoNil, q_aoCons, q_mTup, q_nLst, q_iSeq, q_iSign, q_iR1, q_iR2, q_iEnumM, q_iRevM, q_iZipM, q_sNext, q_sSeq, q_sExpr, q_sRet, q_sRetN, q_sRetL, q_sIf, q_sSet, q_sSetN, q_sAsg, q_sFor, q_nLc, q_bYes, q_mCall, q_nCall, q_mMeth, q_mMeth0, q_mFld, q_mProp, q_nMake, q_pNone, q_pSome, q_mSl, q_mB, q_mRef, q_mMut, q_mMut0, q_mDGet, q_sPut, q_sFldP, q_sAug, q_mTx, q_mIsT, q_mInK, q_sRaise0, q_mExc, q_sTry, q_iScr, q_nDict, q_mNeg, q_mCallK, q_nCallK, Res.toS, Res.bind, Res.lift, Res.calm, resO, resL, CRes.toR, CRes.toN, CRes.toB, CRes.quiet, cellO, setE, setS, dLt, dLe, dGt, dGe, dAdd, iSub, dAddA, dEq, dNe, eqB, sEq, fInt, gNm, gTp, gsCons, gsNil, dTru, dIsN, dNotN, locAt, isLst, mutK, insC, List.getElem?_cons_zero, List.getElem?_cons_succ, List.set_cons_zero, List.set_cons_succ, List.length_cons, List.length_nil, List.length_set, Option.map_some, Option.map_none, Option.bind_some, if_true, if_false, decide_eq_true_eq, decide_true, decide_false, Nat.zero_lt_succ, Nat.reduceLT, Nat.reduceAdd, and_true, true_and, and_self, Bool.false_eq_true, List.map_cons, List.map_nil, List.cons_append, List.nil_append, List.replicate_succ, List.replicate_zero, Nat.reduceSub, List.append_nil, reduceCtorEq, reduceIte, ne_eq, not_false_eq_true, not_true_eq_false, List.tail_cons, List.head?_cons, sz_le, sz_lt, Nat.reduceLeDiff, Nat.zero_le, ok62_int, Int.reduceLE, Int.reduceNeg, Int.reduceToNat, Bool.and_self, Int.reduceLT, Int.natCast_zero, Int.cast_ofNat_Int, turnF, u1, u2, q1, ap] <;> rfl, rs ++ [rows], st6, _, _, by rw [List.map_append]; rfl, rfl, q2, ps2 rows q3 q4, by simp [b3]⟩
  refine ⟨rs, st3, x4, x13, rfl, b1.mono (by omega), b2, fun z => ?_, by omega⟩
  subst z
  simp at b3
  omega
end K84
set_option maxHeartbeats 0
namespace K84
open PySem PySem.Spec PyProof.Rows L2 L2H Vf
def dd_law_mixed : He5.DefA := ⟨fun K => He.ga K "_law_mixed", "_law_mixed", "_law_mixed", defArgs st_law_mixed, defBody st_law_mixed, defScope st_law_mixed, [], []⟩
def dd_law_draws : He5.DefA := ⟨fun K => He.ga K "_law_draws", "_law_draws", "_law_draws", defArgs st_law_draws, defBody st_law_draws, defScope st_law_draws, [], []⟩
def dd_law_opened : He5.DefA := ⟨fun K => He.ga K "_law_opened", "_law_opened", "_law_opened", defArgs st_law_opened, defBody st_law_opened, defScope st_law_opened, [], []⟩
def dd_law_take : He5.DefA := ⟨fun K => He.ga K "_law_take", "_law_take", "_law_take", defArgs st_law_take, defBody st_law_take, defScope st_law_take, [], []⟩
def dd_law_shuffled : He5.DefA := ⟨fun K => He.ga K "_law_shuffled", "_law_shuffled", "_law_shuffled", defArgs st_law_shuffled, defBody st_law_shuffled, defScope st_law_shuffled, [], []⟩
def dd_law_things : He5.DefA := ⟨fun K => He.ga K "_law_things", "_law_things", "_law_things", defArgs st_law_things, defBody st_law_things, defScope st_law_things, [], []⟩
def dd_law_plan_rows : He5.DefA := ⟨fun K => He.ga K "_law_plan_rows", "_law_plan_rows", "_law_plan_rows", defArgs st_law_plan_rows, defBody st_law_plan_rows, defScope st_law_plan_rows, [], []⟩
def dd_law_at_stop : He5.DefA := ⟨fun K => He.ga K "_law_at_stop", "_law_at_stop", "_law_at_stop", defArgs st_law_at_stop, defBody st_law_at_stop, defScope st_law_at_stop, [], []⟩
def dd_law_in_a_row : He5.DefA := ⟨fun K => He.ga K "_law_in_a_row", "_law_in_a_row", "_law_in_a_row", defArgs st_law_in_a_row, defBody st_law_in_a_row, defScope st_law_in_a_row, [], []⟩
def dd_law_by_turns : He5.DefA := ⟨fun K => He.ga K "_law_by_turns", "_law_by_turns", "_law_by_turns", defArgs st_law_by_turns, defBody st_law_by_turns, defScope st_law_by_turns, [], []⟩
def dd_law_dealt : He5.DefA := ⟨fun K => He.ga K "_law_dealt", "_law_dealt", "_law_dealt", defArgs st_law_dealt, defBody st_law_dealt, defScope st_law_dealt, [], []⟩
def dd_stepped : He5.DefA := ⟨fun K => He.ga K "stepped", "stepped", "stepped", defArgs st_stepped, defBody st_stepped, defScope st_stepped, [], []⟩
def dd_next_goods : He5.DefA := ⟨fun K => He.ga K "next_goods", "next_goods", "next_goods", defArgs st_next_goods, defBody st_next_goods, defScope st_next_goods, [], []⟩
def dd_good_row : He5.DefA := ⟨fun K => He.ga K "good_row", "good_row", "good_row", defArgs st_good_row, defBody st_good_row, defScope st_good_row, [], []⟩
def dd_row_at : He5.DefA := ⟨fun K => He.ga K "row_at", "row_at", "row_at", defArgs st_row_at, defBody st_row_at, defScope st_row_at, [], []⟩
def dd_Plan_longest : He5.DefA := ⟨fun K => pAd K (He.ga K "Plan") "longest", "longest", "Plan.longest", defArgs st_Plan_longest, defBody st_Plan_longest, defScope st_Plan_longest, [], []⟩
def dd_Plan_rows : He5.DefA := ⟨fun K => He.ma K (He.ga K "Plan") "rows", "rows", "Plan.rows", defArgs st_Plan_rows, defBody st_Plan_rows, defScope st_Plan_rows, [], []⟩
def dd_Plan___contains__ : He5.DefA := ⟨fun K => He.ma K (He.ga K "Plan") "__contains__", "__contains__", "Plan.__contains__", defArgs st_Plan___contains__, defBody st_Plan___contains__, defScope st_Plan___contains__, [], []⟩
def dd_Plan_init : He5.DefA := ⟨fun K => He.ma K (He.ga K "Plan") "__init__", "__init__", "Plan.__init__", defArgs st_Plan_init, defBody st_Plan_init, defScope st_Plan_init, [], []⟩
def dd_all_looks : He5.DefA := ⟨fun K => He.ga K "all_looks", "all_looks", "all_looks", defArgs st_all_looks, defBody st_all_looks, defScope st_all_looks, [], []⟩
def dd_run_rest : He5.DefA := ⟨fun K => He.ga K "run_rest", "run_rest", "run_rest", defArgs st_run_rest, defBody st_run_rest, defScope st_run_rest, [], []⟩
def dd_run_turns : He5.DefA := ⟨fun K => He.ga K "run_turns", "run_turns", "run_turns", defArgs st_run_turns, defBody st_run_turns, defScope st_run_turns, [], []⟩
def dd_run_lot : He5.DefA := ⟨fun K => He.ga K "run_lot", "run_lot", "run_lot", defArgs st_run_lot, defBody st_run_lot, defScope st_run_lot, [], [("turns", .bl false)]⟩
def dd_law_matches : He5.DefA := ⟨fun K => He.ga K "_law_matches", "_law_matches", "_law_matches", defArgs st_law_matches, defBody st_law_matches, defScope st_law_matches, [], []⟩
def dd_law_class_of : He5.DefA := ⟨fun K => He.ga K "_law_class_of", "_law_class_of", "_law_class_of", defArgs st_law_class_of, defBody st_law_class_of, defScope st_law_class_of, [], []⟩
def dd_law_ask : He5.DefA := ⟨fun K => He.ga K "_law_ask", "_law_ask", "_law_ask", defArgs st_law_ask, defBody st_law_ask, defScope st_law_ask, [], []⟩
def dd_law : He5.DefA := ⟨fun K => He.ga K "law", "law", "law", defArgs st_law, defBody st_law, defScope st_law, [], []⟩
def fns : List He5.DefA := [dd_law_mixed, dd_law_draws, dd_law_opened, dd_law_take, dd_law_shuffled, dd_law_things, dd_law_plan_rows, dd_law_at_stop, dd_law_in_a_row, dd_law_by_turns, dd_law_dealt, dd_stepped, dd_next_goods, dd_good_row, dd_row_at, dd_Plan_longest, dd_Plan_rows, dd_Plan___contains__, dd_Plan_init, dd_all_looks, dd_run_rest, dd_run_turns, dd_run_lot, dd_law_matches, dd_law_class_of, dd_law_ask, dd_law]
def fas : List He.Fa := [.free "int", .free "range", .glo "_law_mixed", .free "len", .free "list", .glo "_law_draws", .glo "_law_opened", .glo "_law_take", .glo "_law_shuffled", .glo "_law_things", .glo "_law_plan_rows", .glo "_law_at_stop", .glo "_law_in_a_row", .free "max", .glo "_law_by_turns", .glo "_law_dealt", .glo "stepped", .free "tuple", .glo "next_goods", .free "enumerate", .glo "good_row", .glo "row_at", .cls "Plan", .meth "Plan" "rows", .meth "Plan" "__contains__", .int "MOST_LOOKS" 12, .glo "Plan", .mkr "Plan", .free "sum", .glo "all_looks", .glo "run_rest", .glo "run_turns", .exc "BadLot", .glo "BadLot", .glo "run_lot", .free "isinstance", .free "bool", .free "str", .glo "_law_matches", .glo "_law_class_of", .free "ValueError", .glo "TrialError", .glo "_law_ask", .glo "law"]
def cks (K : PySem.W.Frag) : Bool := ((fas.all (fun f => f.ok K)) && (((["Plan"] : List Str).all fun c => (He.Fa.cls c).ok K && (He.Fa.noat c "go_rows").ok K) && (propB K "Plan" "longest" && (((["Plan"] : List Str).all fun c => (He.Fa.cls c).ok K && (He.Fa.noat c "met_rows").ok K) && (((["BadLot"] : List Str).all fun c => excs.all fun n => decide (PySem.W.kitOne K (.ref (He.ga K c)) (.ref (He.ga K n)) = some (subX c n))) && ((excs.all fun n => (He.Fa.glo n).ok K) && (((["BadLot"] : List Str).all fun c => decide (PySem.W.kitOne K (.ref (He.ga K c)) (.type "ValueError") = some true)) && (((["BadLot"] : List Str).all fun c => decide (PySem.W.exmOne K (.ref (He.ga K c)) (.ref (He.ga K "TrialError")) = some true)) && ((["BadLot"] : List Str).all fun c => excCB K (He.ga K c))))))))))
abbrev RR : PySem.W.OpenRow := PySem.W.OpenLaw.row PySem.Challenge.rw_onetelling_k84_run_lot
abbrev hk : PySem.W.Hook := hookX 5 cks fns
def ob (s : PySem.W.SharedT) : He.AlD := obsXG 5 cks fns (HandSHeadRun.getT s)
theorem ob_eq (s : PySem.W.SharedT) : ob s = hk.obs s.abs := obsXG_eq (HandSHeadRun.getT_eq s)
def names0 : List PySem.Str := ["_wall", "TrialError", "BadFraction", "BadShare", "BadPoly", "BadEnds", "BadLot", "BadTelling", "BadVerdict", "BadDesign", "NotStop", "BadText", "BadPlan", "BadCourse", "BadPage", "TooLong", "TooDeep", "TooMany", "Untold", "HasGap", "Refused", "Begun", "Unknown", "Twice", "Stopped", "NotEnded", "all_looks", "stepped", "run_lot", "run_rest"]
def names1 : List PySem.Str := ["run_turns", "MOST_LOOKS", "next_goods", "good_row", "row_at", "union_rows", "meet_rows", "Plan", "_law_mixed", "_law_draws", "_law_opened", "_law_take", "_law_shuffled", "_law_things", "_law_matches", "_law_class_of", "_law_plan_rows", "_law_ask", "_law_at_stop", "_law_in_a_row", "_law_by_turns", "_law_dealt"]
def names : List PySem.Str := names0 ++ names1
theorem run (w : World) : HandSHeadRun.RunEq RR (PySem.W.view RR.prog [56]) hk ob 12000 names w := by
  intro os
  kernel_rfl
theorem facts {P : Program} {w : World} {K : PySem.W.Frag} {h : Heap} {mg : Str → Option Value} {f : Addr} (X : K.In h) (G : h.Ns mainGlobals mg) (hfa : mg ("law" : Str) = some (.ref f)) (c : SaysX cks fns K) :
    ∃ fd : FuncData, (∀ (s : Shared) (v : Value), BindsTo s fd ⟨[v], []⟩ [("script", v)]) ∧ ∀ base : Heap, K.In base → base.Ns mainGlobals mg → FnOk P w K mg base CX0 6 f fd ["script"] (spLaw K F_law) := by
  have cc := c.ck_
  unfold cks at cc
  simp only [Bool.and_eq_true] at cc
  obtain ⟨cf, ce0, ce1, ce2, ce3, ce4, ce5, ce6, ce7⟩ := cc
  obtain ⟨fd, Fl⟩ := c.def_ 26 (d := dd_law) rfl
  have e := hfa.symm.trans (He.glo_ok X G (List.all_eq_true.mp cf _ (List.mem_of_getElem? (i := 43) rfl)))
  cases e
  have b := FunD.bindsA (ps := ["script"]) Fl fun _ _ _ _ _ _ us hl => match us, hl with | [_], _ => rfl
  refine ⟨fd, fun s v => b s [v] rfl, fun base _ _ => ?_⟩
  obtain ⟨fd0, F0⟩ := c.def_ 0 (d := dd_law_mixed) rfl
  have hb_int := He.free_ok X G (x := "int") (List.all_eq_true.mp cf _ (List.mem_of_getElem? (i := 0) rfl))
  have hb_range := He.free_ok X G (x := "range") (List.all_eq_true.mp cf _ (List.mem_of_getElem? (i := 1) rfl))
  have G_law_mixed := g_law_mixed (P := P) (w := w) (base := base) hb_int hb_range F0 (He.glo_ok X G (List.all_eq_true.mp cf _ (List.mem_of_getElem? (i := 2) rfl)))
  obtain ⟨fd1, F1⟩ := c.def_ 1 (d := dd_law_draws) rfl
  have hb_len := He.free_ok X G (x := "len") (List.all_eq_true.mp cf _ (List.mem_of_getElem? (i := 3) rfl))
  have hb_list := He.free_ok X G (x := "list") (List.all_eq_true.mp cf _ (List.mem_of_getElem? (i := 4) rfl))
  have G_law_draws := g_law_draws (P := P) (w := w) (base := base) hb_len hb_int hb_list F1 (He.glo_ok X G (List.all_eq_true.mp cf _ (List.mem_of_getElem? (i := 5) rfl)))
  obtain ⟨fd2, F2⟩ := c.def_ 2 (d := dd_law_opened) rfl
  have G_law_opened := g_law_opened (P := P) (w := w) (base := base) hb_len hb_range hb_int F2 (He.glo_ok X G (List.all_eq_true.mp cf _ (List.mem_of_getElem? (i := 6) rfl)))
  obtain ⟨fd3, F3⟩ := c.def_ 3 (d := dd_law_take) rfl
  have G_law_take := g_law_take (P := P) (w := w) (base := base) G_law_opened hb_int G_law_mixed F3 (He.glo_ok X G (List.all_eq_true.mp cf _ (List.mem_of_getElem? (i := 7) rfl)))
  obtain ⟨fd4, F4⟩ := c.def_ 4 (d := dd_law_shuffled) rfl
  have G_law_shuffled := g_law_shuffled (P := P) (w := w) (base := base) hb_list hb_len hb_range G_law_take F4 (He.glo_ok X G (List.all_eq_true.mp cf _ (List.mem_of_getElem? (i := 8) rfl)))
  obtain ⟨fd5, F5⟩ := c.def_ 5 (d := dd_law_things) rfl
  have G_law_things := g_law_things (P := P) (w := w) (base := base) G_law_take hb_range F5 (He.glo_ok X G (List.all_eq_true.mp cf _ (List.mem_of_getElem? (i := 9) rfl)))
  obtain ⟨fd6, F6⟩ := c.def_ 6 (d := dd_law_plan_rows) rfl
  have G_law_plan_rows := g_law_plan_rows (P := P) (w := w) (base := base) hb_range G_law_take hb_len hb_int F6 (He.glo_ok X G (List.all_eq_true.mp cf _ (List.mem_of_getElem? (i := 10) rfl)))
  obtain ⟨fd7, F7⟩ := c.def_ 7 (d := dd_law_at_stop) rfl
  have G_law_at_stop := g_law_at_stop (P := P) (w := w) (base := base) hb_len F7 (He.glo_ok X G (List.all_eq_true.mp cf _ (List.mem_of_getElem? (i := 11) rfl)))
  obtain ⟨fd8, F8⟩ := c.def_ 8 (d := dd_law_in_a_row) rfl
  have G_law_in_a_row := g_law_in_a_row (P := P) (w := w) (base := base) hb_len hb_range G_law_at_stop F8 (He.glo_ok X G (List.all_eq_true.mp cf _ (List.mem_of_getElem? (i := 12) rfl)))
  obtain ⟨fd9, F9⟩ := c.def_ 9 (d := dd_law_by_turns) rfl
  have hb_max := He.free_ok X G (x := "max") (List.all_eq_true.mp cf _ (List.mem_of_getElem? (i := 13) rfl))
  have G_law_by_turns := g_law_by_turns (P := P) (w := w) (base := base) hb_len hb_max hb_range G_law_at_stop F9 (He.glo_ok X G (List.all_eq_true.mp cf _ (List.mem_of_getElem? (i := 14) rfl)))
  obtain ⟨fd10, F10⟩ := c.def_ 10 (d := dd_law_dealt) rfl
  have G_law_dealt := g_law_dealt (P := P) (w := w) (base := base) hb_len hb_max hb_range F10 (He.glo_ok X G (List.all_eq_true.mp cf _ (List.mem_of_getElem? (i := 15) rfl)))
  obtain ⟨fd11, F11⟩ := c.def_ 11 (d := dd_stepped) rfl
  have G_stepped := g_stepped (P := P) (w := w) (base := base)  F11 (He.glo_ok X G (List.all_eq_true.mp cf _ (List.mem_of_getElem? (i := 16) rfl)))
  obtain ⟨fd12, F12⟩ := c.def_ 12 (d := dd_next_goods) rfl
  have hb_tuple := He.free_ok X G (x := "tuple") (List.all_eq_true.mp cf _ (List.mem_of_getElem? (i := 17) rfl))
  have G_next_goods := g_next_goods (P := P) (w := w) (base := base) hb_tuple F12 (He.glo_ok X G (List.all_eq_true.mp cf _ (List.mem_of_getElem? (i := 18) rfl)))
  obtain ⟨fd13, F13⟩ := c.def_ 13 (d := dd_good_row) rfl
  have hb_enumerate := He.free_ok X G (x := "enumerate") (List.all_eq_true.mp cf _ (List.mem_of_getElem? (i := 19) rfl))
  have G_good_row := g_good_row (P := P) (w := w) (base := base) hb_enumerate F13 (He.glo_ok X G (List.all_eq_true.mp cf _ (List.mem_of_getElem? (i := 20) rfl)))
  obtain ⟨fd14, F14⟩ := c.def_ 14 (d := dd_row_at) rfl
  have G_row_at := g_row_at (P := P) (w := w) (base := base) hb_len F14 (He.glo_ok X G (List.all_eq_true.mp cf _ (List.mem_of_getElem? (i := 21) rfl)))
  obtain ⟨fd15, F15⟩ := c.def_ 15 (d := dd_Plan_longest) rfl
  have gf_go_rows : GFd K "go_rows" ["Plan"] := gfd_ok ce0
  have GP_Plan_longest := g_Plan_longest (P := P) (w := w) (mg := mg) (base := base) gf_go_rows hb_len F15 (He.cls_ok (List.all_eq_true.mp cf _ (List.mem_of_getElem? (i := 22) rfl))) (propB_ok ce1)
  obtain ⟨fd16, F16⟩ := c.def_ 16 (d := dd_Plan_rows) rfl
  have GM_Plan_rows := g_Plan_rows (P := P) (w := w) (mg := mg) (base := base) gf_go_rows hb_list F16 (He.cls_ok (List.all_eq_true.mp cf _ (List.mem_of_getElem? (i := 22) rfl))) (He.meth_ok (List.all_eq_true.mp cf _ (List.mem_of_getElem? (i := 23) rfl)))
  obtain ⟨fd17, F17⟩ := c.def_ 17 (d := dd_Plan___contains__) rfl
  have GM_Plan___contains__ := g_Plan___contains__ (P := P) (w := w) (mg := mg) (base := base) gf_go_rows G_row_at F17 (He.cls_ok (List.all_eq_true.mp cf _ (List.mem_of_getElem? (i := 22) rfl))) (He.meth_ok (List.all_eq_true.mp cf _ (List.mem_of_getElem? (i := 24) rfl)))
  obtain ⟨fd18, F18⟩ := c.def_ 18 (d := dd_Plan_init) rfl
  have gc_MOST_LOOKS : ∃ u, mg "MOST_LOOKS" = some u ∧ L2.RelV (.int 12) u := by
    obtain ⟨t, e⟩ := He.int_ok X G (x := "MOST_LOOKS") (i := 12) (List.all_eq_true.mp cf _ (List.mem_of_getElem? (i := 25) rfl))
    exact ⟨_, e, t, rfl⟩
  have gf_met_rows : GFd K "met_rows" ["Plan"] := gfd_ok ce2
  have GC_Plan := g_Plan_init (P := P) (w := w) (base := base) hb_len gc_MOST_LOOKS hb_enumerate G_good_row G_next_goods hb_tuple gf_go_rows gf_met_rows F18 (He.glo_ok X G (List.all_eq_true.mp cf _ (List.mem_of_getElem? (i := 26) rfl))) (He.mkr_ok (List.all_eq_true.mp cf _ (List.mem_of_getElem? (i := 27) rfl)))
  obtain ⟨fd19, F19⟩ := c.def_ 19 (d := dd_all_looks) rfl
  have hb_sum := He.free_ok X G (x := "sum") (List.all_eq_true.mp cf _ (List.mem_of_getElem? (i := 28) rfl))
  have G_all_looks := g_all_looks (P := P) (w := w) (base := base) GP_Plan_longest hb_sum F19 (He.glo_ok X G (List.all_eq_true.mp cf _ (List.mem_of_getElem? (i := 29) rfl)))
  obtain ⟨fd20, F20⟩ := c.def_ 20 (d := dd_run_rest) rfl
  have G_run_rest := g_run_rest (P := P) (w := w) (base := base) GM_Plan___contains__ G_stepped F20 (He.glo_ok X G (List.all_eq_true.mp cf _ (List.mem_of_getElem? (i := 30) rfl)))
  obtain ⟨fd21, F21⟩ := c.def_ 21 (d := dd_run_turns) rfl
  have G_run_turns := g_run_turns (P := P) (w := w) (base := base) hb_enumerate GM_Plan___contains__ G_stepped F21 (He.glo_ok X G (List.all_eq_true.mp cf _ (List.mem_of_getElem? (i := 31) rfl)))
  obtain ⟨fd22, F22⟩ := c.def_ 22 (d := dd_run_lot) rfl
  have GX_BadLot : GXc K mg "BadLot" := gxc_ok (List.all_eq_true.mp cf _ (List.mem_of_getElem? (i := 32) rfl)) (He.glo_ok X G (List.all_eq_true.mp cf _ (List.mem_of_getElem? (i := 33) rfl)))
  have GD_run_lot : GFn P w K mg base "run_lot" 2 4 FD_run_lot := GFn.ofD (N := N_run_lot) (ps := ps_run_lot) (dkw := [.bl false]) 2 F22 sc_run_lot (He.glo_ok X G (List.all_eq_true.mp cf _ (List.mem_of_getElem? (i := 34) rfl))) (by intro z; cases z) rfl (fun _ => .cons (.bl false) (.nil)) (fun _ _ _ _ _ _ us ks h1 h2 => match us, ks, h1, h2 with | [_, _], [_], _, _ => ⟨_, _, _, _, _, _, rfl, rfl, rfl⟩) (b_run_lot hb_len G_all_looks GX_BadLot G_run_turns G_run_rest)
  have GK_run_lot : GFnK P w K mg base "run_lot" 2 ["turns"] 4 F_run_lot := GFnK.of (N := N_run_lot) (ps := ps_run_lot) 2 ["turns"] F22 sc_run_lot (He.glo_ok X G (List.all_eq_true.mp cf _ (List.mem_of_getElem? (i := 34) rfl))) (by intro z; cases z) rfl (fun _ _ _ _ _ _ us ws h1 h2 => match us, ws, h1, h2 with | [_, _], [_], _, _ => rfl) (b_run_lot hb_len G_all_looks GX_BadLot G_run_turns G_run_rest)
  obtain ⟨fd23, F23⟩ := c.def_ 23 (d := dd_law_matches) rfl
  have hb_isinstance := He.free_ok X G (x := "isinstance") (List.all_eq_true.mp cf _ (List.mem_of_getElem? (i := 35) rfl))
  have hb_bool := He.free_ok X G (x := "bool") (List.all_eq_true.mp cf _ (List.mem_of_getElem? (i := 36) rfl))
  have hb_str := He.free_ok X G (x := "str") (List.all_eq_true.mp cf _ (List.mem_of_getElem? (i := 37) rfl))
  have R23_0 : GFn P w K mg base "_law_matches" 2 0 (F_law_matches 0) := GFn.stuck (ps := ["actual", "expected"]) F23 (He.glo_ok X G (List.all_eq_true.mp cf _ (List.mem_of_getElem? (i := 38) rfl))) (F23.bindsN fun _ _ _ _ _ _ us hl => match us, hl with | [_, _], _ => rfl)
  have R23_1 : GFn P w K mg base "_law_matches" 2 1 (F_law_matches 1) := g_law_matches hb_isinstance hb_bool hb_int hb_str hb_list hb_tuple hb_len hb_range R23_0 F23 (He.glo_ok X G (List.all_eq_true.mp cf _ (List.mem_of_getElem? (i := 38) rfl)))
  have R23_2 : GFn P w K mg base "_law_matches" 2 2 (F_law_matches 2) := g_law_matches hb_isinstance hb_bool hb_int hb_str hb_list hb_tuple hb_len hb_range R23_1 F23 (He.glo_ok X G (List.all_eq_true.mp cf _ (List.mem_of_getElem? (i := 38) rfl)))
  have R23_3 : GFn P w K mg base "_law_matches" 2 3 (F_law_matches 3) := g_law_matches hb_isinstance hb_bool hb_int hb_str hb_list hb_tuple hb_len hb_range R23_2 F23 (He.glo_ok X G (List.all_eq_true.mp cf _ (List.mem_of_getElem? (i := 38) rfl)))
  have R23_4 : GFn P w K mg base "_law_matches" 2 4 (F_law_matches 4) := g_law_matches hb_isinstance hb_bool hb_int hb_str hb_list hb_tuple hb_len hb_range R23_3 F23 (He.glo_ok X G (List.all_eq_true.mp cf _ (List.mem_of_getElem? (i := 38) rfl)))
  have R23_5 : GFn P w K mg base "_law_matches" 2 5 (F_law_matches 5) := g_law_matches hb_isinstance hb_bool hb_int hb_str hb_list hb_tuple hb_len hb_range R23_4 F23 (He.glo_ok X G (List.all_eq_true.mp cf _ (List.mem_of_getElem? (i := 38) rfl)))
  obtain ⟨fd24, F24⟩ := c.def_ 24 (d := dd_law_class_of) rfl
  have G_law_class_of := g_law_class_of (P := P) (w := w) (base := base) hb_range hb_len F24 (He.glo_ok X G (List.all_eq_true.mp cf _ (List.mem_of_getElem? (i := 39) rfl)))
  obtain ⟨fd25, F25⟩ := c.def_ 25 (d := dd_law_ask) rfl
  have hkit : ∀ c ∈ (["BadLot"] : List Str), ∀ n ∈ K84.excs, PySem.W.kitOne K (.ref (He.ga K c)) (.ref (He.ga K n)) = some (subX c n) := fun c hc n hn => of_decide_eq_true (List.all_eq_true.mp (List.all_eq_true.mp ce3 c hc) n hn)
  have hmgx : ∀ n ∈ K84.excs, mg n = some (.ref (He.ga K n)) := fun n hn => He.glo_ok X G (List.all_eq_true.mp ce4 n hn)
  have hb_ValueError := He.free_ok X G (x := "ValueError") (List.all_eq_true.mp cf _ (List.mem_of_getElem? (i := 40) rfl))
  have hkit_ValueError : ∀ c ∈ (["BadLot"] : List Str), PySem.W.kitOne K (.ref (He.ga K c)) (.type "ValueError") = some true := fun c hc => of_decide_eq_true (List.all_eq_true.mp ce5 c hc)
  have hx_TrialError : ∀ c ∈ (["BadLot"] : List Str), PySem.W.exmOne K (.ref (He.ga K c)) (.ref (He.ga K "TrialError")) = some true := fun c hc => of_decide_eq_true (List.all_eq_true.mp ce6 c hc)
  have mg_TrialError : mg "TrialError" = some (.ref (He.ga K "TrialError")) := He.glo_ok X G (List.all_eq_true.mp cf _ (List.mem_of_getElem? (i := 41) rfl))
  have hXc : ∀ c ∈ (["BadLot"] : List Str), ExcC K (He.ga K c) := fun c hc => excCB_ok (List.all_eq_true.mp ce7 c hc)
  have G_law_ask := g_law_ask (P := P) (w := w) (base := base) GD_run_lot GK_run_lot hb_isinstance hkit hmgx hb_ValueError hkit_ValueError G_law_class_of hx_TrialError mg_TrialError hXc hh_ask F25 (He.glo_ok X G (List.all_eq_true.mp cf _ (List.mem_of_getElem? (i := 42) rfl)))
  obtain ⟨fd26, F26⟩ := c.def_ 26 (d := dd_law) rfl
  exact law_CX0 (fn_ok Fl sc_law (b_law (P := P) (w := w) (base := base) G_law_draws G_law_take hb_range G_law_plan_rows hb_len hb_sum G_law_things hb_list GC_Plan G_law_in_a_row G_law_by_turns G_law_dealt G_law_shuffled G_law_ask R23_5 GM_Plan_rows))
end K84
open PySem PySem.W PySem.Calls PyProof.Rows
theorem PySem.Challenge.cw_onetelling_k84_run_lot_holds : PySem.Challenge.rw_onetelling_k84_run_lot.Holds := by
  w_on; o_law
  refine HandSHeadRun.head_any (r := OpenLaw.row PySem.Challenge.rw_onetelling_k84_run_lot) (q := view (OpenLaw.row PySem.Challenge.rw_onetelling_k84_run_lot).prog [56]) (H := K84.hk) (ob := K84.ob) (M := 12000) (loose := K84.names) (d := HandSHeadRun.topDef (OpenLaw.row PySem.Challenge.rw_onetelling_k84_run_lot).prog 56) (kwd := []) K84.ob_eq
    (by kernel_rfl) (fun s => by kernel_rfl) K84.run (by kernel_rfl) (by kernel_rfl) (by kernel_rfl) (by rfl) (by first | assumption | decide +kernel) (by decide +kernel) ⟨rfl, rfl, rfl, rfl, rfl, by decide +kernel⟩ ?hw ?hc
  case hw => w_witness2
  case hc =>
    refine L2.walk_ofE (l := PySem.Challenge.rw_onetelling_k84_run_lot) (n := 63) (k := 6) (x := "script") (CX := L2.CX0) rfl (by decide) (by kernel_rfl) ⟨rfl, by decide, by decide⟩ ?F (fun _ _ _ _ z => z)
    intro w mg fa h Y G hmg0
    obtain ⟨K, KX, c⟩ := Y
    have hmg : mg ("law" : PySem.Str) = some (.ref fa) := by
      have e : (HandSHeadRun.topDef (OpenLaw.row PySem.Challenge.rw_onetelling_k84_run_lot).prog 56).name = ("law" : PySem.Str) := by kernel_rfl
      rw [← e]
      exact hmg0
    obtain ⟨fd, hb, hF⟩ := K84.facts (P := (PySem.Challenge.rw_onetelling_k84_run_lot).prog) (w := w) KX G hmg c
    exact ⟨K, fd, Vf.spLaw K K84.F_law, KX, hb, fun H a ns hl ho hS => Vf.spLaw_of K84.law_ok hl hS, hF⟩
