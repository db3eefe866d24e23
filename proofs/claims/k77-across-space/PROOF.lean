import PyProof.Rows.All
import Wide.All
import OpenK.AllK
import Wide.FinOn
import HandS.ForMost
import HandS.Evl
import HandS.Conv
import HandS.Star
import HandS.IsInst
import HandS.TupAny
import HandS.TupLen
import HandS.Flow
import HandS.Small
import HandS.Codes
import HandS.SortInts
import HandS.TupMul
import HandS.Zip
import PyProof.Rows.Range3
import HandS.Style
import HandS.SetFor
import KE.GoesMore
import KE.GoesEnum
import KE.KDictDisplayH
import PyProof.WalksMore
import PyProof.SumWalkG
import PySem.Challenge.RW_onetenants_k77_across_space
import HandS.HeadWalk
set_option Elab.async false
set_option linter.all false
set_option maxRecDepth 100000
set_option maxHeartbeats 1000000
namespace DL
open PySem L2
open Evl (Ex)

/-- values as plain data -/
inductive D where
  | non | bl (b : Bool) | int (i : Int) | str (x : Str)
  | lst (xs : List D) | tup (xs : List D)
  | dK (ks : List Key) (xs : List D) | dT (ks : List (List Key)) (xs : List D)
  | obj (c : Nat) (fs : List D)
  | scr (ns : List Int)

/-- what is fixed: the written part, the classes by number (address, names of the fields in order) -/
structure Ctx where
  K : PySem.W.Frag
  cls : Nat → Option (Addr × List Str)

mutual
def Rep (Γ : Ctx) (G : Hp) : D → V → Prop
  | .non, v => v = .non
  | .bl b, v => v = .bl b
  | .int i, v => v = .int i
  | .str x, v => v = .str x
  | .lst xs, v => ∃ a vs, v = .ref a ∧ G a = some (.lst vs) ∧ RepL Γ G xs vs
  | .tup xs, v => ∃ a vs, v = .ref a ∧ G a = some (.tup vs) ∧ RepL Γ G xs vs
  | .dK ks xs, v => ∃ a ws, v = .ref a ∧ G a = some (.dK ws) ∧ ws.map (·.1) = ks ∧ RepL Γ G xs (ws.map (·.2))
  | .dT ks xs, v => ∃ a ws, v = .ref a ∧ G a = some (.dT ws) ∧ ws.map (·.1) = ks ∧ RepL Γ G xs (ws.map (·.2))
  | .obj c fs, v => ∃ p C nm dx fs', v = .ref p ∧ Γ.cls c = some (C, nm) ∧ G p = some (.ins C dx fs') ∧ fs'.map (·.1) = nm ∧ RepL Γ G fs (fs'.map (·.2))
  | .scr ns, v => ∃ a, v = .ref a ∧ SqL Γ.K G a (ns.map V.int)
def RepL (Γ : Ctx) (G : Hp) : List D → List V → Prop
  | [], vs => vs = []
  | d :: ds, vs => ∃ v r, vs = v :: r ∧ Rep Γ G d v ∧ RepL Γ G ds r
end

/-- what stands at a cell, as data -/
def Cell (Γ : Ctx) (G : Hp) : D → HO → Prop
  | .lst xs, .lst vs => RepL Γ G xs vs
  | .dK ks xs, .dK ws => ws.map (·.1) = ks ∧ RepL Γ G xs (ws.map (·.2))
  | .dT ks xs, .dT ws => ws.map (·.1) = ks ∧ RepL Γ G xs (ws.map (·.2))
  | _, _ => False

/-- a value that is frozen, or whose one cell stands in Z -/
def RepZ (Γ : Ctx) (G Z : Hp) (d : D) (v : V) : Prop := Rep Γ G d v ∨ ∃ a o, v = .ref a ∧ Z a = some o ∧ Cell Γ G d o
def RepsZ (Γ : Ctx) (G Z : Hp) : List D → List V → Prop
  | [], vs => vs = []
  | d :: ds, vs => ∃ v r, vs = v :: r ∧ RepZ Γ G Z d v ∧ RepsZ Γ G Z ds r

section
variable {Γ : Ctx} {G G' H H' Z Z' : Hp} {d : D} {ds es : List D} {v : V} {vs ws : List V}
mutual
theorem Rep.mono (e : Ex G G') : ∀ (d : D) {v : V}, Rep Γ G d v → Rep Γ G' d v
  | .non, _, h => by simpa only [Rep] using h
  | .bl _, _, h => by simpa only [Rep] using h
  | .int _, _, h => by simpa only [Rep] using h
  | .str _, _, h => by simpa only [Rep] using h
  | .lst xs, _, h => by
    simp only [Rep] at h ⊢
    obtain ⟨a, vs, e1, h1, h2⟩ := h
    exact ⟨a, vs, e1, e _ _ h1, RepL.mono e xs h2⟩
  | .tup xs, _, h => by
    simp only [Rep] at h ⊢
    obtain ⟨a, vs, e1, h1, h2⟩ := h
    exact ⟨a, vs, e1, e _ _ h1, RepL.mono e xs h2⟩
  | .dK ks xs, _, h => by
    simp only [Rep] at h ⊢
    obtain ⟨a, ws, e1, h1, h2, h3⟩ := h
    exact ⟨a, ws, e1, e _ _ h1, h2, RepL.mono e xs h3⟩
  | .dT ks xs, _, h => by
    simp only [Rep] at h ⊢
    obtain ⟨a, ws, e1, h1, h2, h3⟩ := h
    exact ⟨a, ws, e1, e _ _ h1, h2, RepL.mono e xs h3⟩
  | .obj c fs, _, h => by
    simp only [Rep] at h ⊢
    obtain ⟨p, C, nm, dx, fs', e1, h0, h1, h2, h3⟩ := h
    exact ⟨p, C, nm, dx, fs', e1, h0, e _ _ h1, h2, RepL.mono e fs h3⟩
  | .scr ns, _, h => by
    simp only [Rep] at h ⊢
    obtain ⟨a, e1, h1⟩ := h
    exact ⟨a, e1, Evl.ex_l e h1⟩
theorem RepL.mono (e : Ex G G') : ∀ (ds : List D) {vs : List V}, RepL Γ G ds vs → RepL Γ G' ds vs
  | [], _, h => by simpa only [RepL] using h
  | d :: ds, _, h => by
    simp only [RepL] at h ⊢
    obtain ⟨v, r, e1, h1, h2⟩ := h
    exact ⟨v, r, e1, Rep.mono e d h1, RepL.mono e ds h2⟩
end
theorem repL_nil : RepL Γ G [] [] := by simp only [RepL]
theorem repL_cons (h : Rep Γ G d v) (hr : RepL Γ G ds vs) : RepL Γ G (d :: ds) (v :: vs) := by
  simp only [RepL]
  exact ⟨v, vs, rfl, h, hr⟩
theorem RepL.nil_inv (h : RepL Γ G [] vs) : vs = [] := by simpa only [RepL] using h
theorem RepL.cons_inv (h : RepL Γ G (d :: ds) vs) : ∃ v r, vs = v :: r ∧ Rep Γ G d v ∧ RepL Γ G ds r := by simpa only [RepL] using h
theorem RepL.length : ∀ {ds : List D} {vs : List V}, RepL Γ G ds vs → ds.length = vs.length
  | [], _, h => by rw [h.nil_inv]; rfl
  | d :: ds, _, h => by
    obtain ⟨v, r, rfl, _, h2⟩ := h.cons_inv
    simp only [List.length_cons, RepL.length h2]
theorem RepL.append : ∀ {ds : List D} {vs : List V}, RepL Γ G ds vs → RepL Γ G es ws → RepL Γ G (ds ++ es) (vs ++ ws)
  | [], _, h, k => by rw [h.nil_inv]; exact k
  | d :: ds, _, h, k => by
    obtain ⟨v, r, rfl, h1, h2⟩ := h.cons_inv
    exact repL_cons h1 (RepL.append h2 k)
theorem RepL.get : ∀ {ds : List D} {vs : List V} {i : Nat} {d : D}, RepL Γ G ds vs → ds[i]? = some d → ∃ v, vs[i]? = some v ∧ Rep Γ G d v
  | [], _, _, _, h, e => by simp at e
  | x :: ds, _, 0, d, h, e => by
    obtain ⟨v, r, rfl, h1, h2⟩ := h.cons_inv
    simp at e; subst e
    exact ⟨v, rfl, h1⟩
  | x :: ds, _, i + 1, d, h, e => by
    obtain ⟨v, r, rfl, h1, h2⟩ := h.cons_inv
    simpa using RepL.get (i := i) (d := d) h2 (by simpa using e)
theorem RepL.set : ∀ {ds : List D} {vs : List V} {i : Nat}, RepL Γ G ds vs → Rep Γ G d v → RepL Γ G (ds.set i d) (vs.set i v)
  | [], _, _, h, k => by rw [h.nil_inv]; exact repL_nil
  | x :: ds, _, 0, h, k => by
    obtain ⟨v, r, rfl, h1, h2⟩ := h.cons_inv
    exact repL_cons k h2
  | x :: ds, _, i + 1, h, k => by
    obtain ⟨v, r, rfl, h1, h2⟩ := h.cons_inv
    exact repL_cons h1 (RepL.set h2 k)
theorem RepL.take : ∀ {ds : List D} {vs : List V} (n : Nat), RepL Γ G ds vs → RepL Γ G (ds.take n) (vs.take n)
  | _, _, 0, h => by simpa using repL_nil
  | [], _, n + 1, h => by rw [h.nil_inv]; exact repL_nil
  | x :: ds, _, n + 1, h => by
    obtain ⟨v, r, rfl, h1, h2⟩ := h.cons_inv
    exact repL_cons h1 (RepL.take n h2)
theorem RepL.drop : ∀ {ds : List D} {vs : List V} (n : Nat), RepL Γ G ds vs → RepL Γ G (ds.drop n) (vs.drop n)
  | _, _, 0, h => by simpa using h
  | [], _, n + 1, h => by rw [h.nil_inv]; exact repL_nil
  | x :: ds, _, n + 1, h => by
    obtain ⟨v, r, rfl, h1, h2⟩ := h.cons_inv
    simpa using RepL.drop n h2
theorem RepL.reverse : ∀ {ds : List D} {vs : List V}, RepL Γ G ds vs → RepL Γ G ds.reverse vs.reverse
  | [], _, h => by rw [h.nil_inv]; exact repL_nil
  | x :: ds, _, h => by
    obtain ⟨v, r, rfl, h1, h2⟩ := h.cons_inv
    simp only [List.reverse_cons]
    exact (RepL.reverse h2).append (repL_cons h1 repL_nil)
theorem RepL.eraseIdx : ∀ {ds : List D} {vs : List V} (i : Nat), RepL Γ G ds vs → RepL Γ G (ds.eraseIdx i) (vs.eraseIdx i)
  | [], _, _, h => by rw [h.nil_inv]; exact repL_nil
  | x :: ds, _, 0, h => by
    obtain ⟨v, r, rfl, h1, h2⟩ := h.cons_inv
    exact h2
  | x :: ds, _, i + 1, h => by
    obtain ⟨v, r, rfl, h1, h2⟩ := h.cons_inv
    exact repL_cons h1 (RepL.eraseIdx i h2)
theorem Cell.mono (e : Ex G G') {o : HO} (h : Cell Γ G d o) : Cell Γ G' d o := by
  cases d <;> cases o <;> simp only [Cell] at h ⊢
  · exact RepL.mono e _ h
  · exact ⟨h.1, RepL.mono e _ h.2⟩
  · exact ⟨h.1, RepL.mono e _ h.2⟩
theorem RepZ.mono (e : Ex G G') (z : Ex Z Z') (h : RepZ Γ G Z d v) : RepZ Γ G' Z' d v := by
  rcases h with h | ⟨a, o, e1, h1, h2⟩
  · exact .inl (h.mono e)
  · exact .inr ⟨a, o, e1, z _ _ h1, h2.mono e⟩
theorem RepsZ.mono (e : Ex G G') (z : Ex Z Z') : ∀ {ds : List D} {vs : List V}, RepsZ Γ G Z ds vs → RepsZ Γ G' Z' ds vs
  | [], _, h => h
  | d :: ds, _, ⟨v, r, e1, h1, h2⟩ => ⟨v, r, e1, h1.mono e z, RepsZ.mono e z h2⟩
theorem RepsZ.length : ∀ {ds : List D} {vs : List V}, RepsZ Γ G Z ds vs → ds.length = vs.length
  | [], _, h => by cases h; rfl
  | d :: ds, _, ⟨v, r, e1, h1, h2⟩ => by subst e1; simp only [List.length_cons, RepsZ.length h2]
theorem RepZ.int {i : Int} (h : RepZ Γ G Z (.int i) v) : v = .int i := by
  rcases h with h | ⟨a, o, e1, h1, h2⟩
  · simpa only [Rep] using h
  · cases o <;> exact h2.elim
theorem RepZ.bl {i : Bool} (h : RepZ Γ G Z (.bl i) v) : v = .bl i := by
  rcases h with h | ⟨a, o, e1, h1, h2⟩
  · simpa only [Rep] using h
  · cases o <;> exact h2.elim
theorem RepZ.str {i : Str} (h : RepZ Γ G Z (.str i) v) : v = .str i := by
  rcases h with h | ⟨a, o, e1, h1, h2⟩
  · simpa only [Rep] using h
  · cases o <;> exact h2.elim
theorem RepZ.non (h : RepZ Γ G Z .non v) : v = .non := by
  rcases h with h | ⟨a, o, e1, h1, h2⟩
  · simpa only [Rep] using h
  · cases o <;> exact h2.elim
theorem RepZ.lst (gh : Ex G H) (zh : Ex Z H) (h : RepZ Γ G Z (.lst ds) v) : ∃ a vs, v = .ref a ∧ H a = some (.lst vs) ∧ RepL Γ G ds vs := by
  rcases h with h | ⟨a, o, e1, h1, h2⟩
  · simp only [Rep] at h
    obtain ⟨a, vs, e1, h1, h2⟩ := h
    exact ⟨a, vs, e1, gh _ _ h1, h2⟩
  · cases o with
    | lst vs => exact ⟨a, vs, e1, zh _ _ h1, h2⟩
    | _ => exact h2.elim
theorem RepZ.scr {ns : List Int} (gh : Ex G H) (h : RepZ Γ G Z (.scr ns) v) : ∃ a, v = .ref a ∧ SqL Γ.K H a (ns.map V.int) := by
  rcases h with h | ⟨a, o, e1, h1, h2⟩
  · simp only [Rep] at h
    obtain ⟨a, e1, h1⟩ := h
    exact ⟨a, e1, Evl.ex_l gh h1⟩
  · cases o <;> exact h2.elim
theorem RepZ.tup (gh : Ex G H) (h : RepZ Γ G Z (.tup ds) v) : ∃ a vs, v = .ref a ∧ H a = some (.tup vs) ∧ RepL Γ G ds vs := by
  rcases h with h | ⟨a, o, e1, h1, h2⟩
  · simp only [Rep] at h
    obtain ⟨a, vs, e1, h1, h2⟩ := h
    exact ⟨a, vs, e1, gh _ _ h1, h2⟩
  · cases o <;> exact h2.elim
theorem RepZ.dK {ks : List Key} (gh : Ex G H) (zh : Ex Z H) (h : RepZ Γ G Z (.dK ks ds) v) : ∃ a ws, v = .ref a ∧ H a = some (.dK ws) ∧ ws.map (·.1) = ks ∧ RepL Γ G ds (ws.map (·.2)) := by
  rcases h with h | ⟨a, o, e1, h1, h2⟩
  · simp only [Rep] at h
    obtain ⟨a, ws, e1, h1, h2⟩ := h
    exact ⟨a, ws, e1, gh _ _ h1, h2⟩
  · cases o with
    | dK ws => exact ⟨a, ws, e1, zh _ _ h1, h2⟩
    | _ => exact h2.elim
theorem RepZ.dT {ks : List (List Key)} (gh : Ex G H) (zh : Ex Z H) (h : RepZ Γ G Z (.dT ks ds) v) : ∃ a ws, v = .ref a ∧ H a = some (.dT ws) ∧ ws.map (·.1) = ks ∧ RepL Γ G ds (ws.map (·.2)) := by
  rcases h with h | ⟨a, o, e1, h1, h2⟩
  · simp only [Rep] at h
    obtain ⟨a, ws, e1, h1, h2⟩ := h
    exact ⟨a, ws, e1, gh _ _ h1, h2⟩
  · cases o with
    | dT ws => exact ⟨a, ws, e1, zh _ _ h1, h2⟩
    | _ => exact h2.elim
theorem RepZ.obj {c : Nat} (gh : Ex G H) (h : RepZ Γ G Z (.obj c ds) v) : ∃ p C nm dx fs', v = .ref p ∧ Γ.cls c = some (C, nm) ∧ H p = some (.ins C dx fs') ∧ fs'.map (·.1) = nm ∧ RepL Γ G ds (fs'.map (·.2)) := by
  rcases h with h | ⟨a, o, e1, h1, h2⟩
  · simp only [Rep] at h
    obtain ⟨p, C, nm, dx, fs', e1, h0, h1, h2⟩ := h
    exact ⟨p, C, nm, dx, fs', e1, h0, gh _ _ h1, h2⟩
  · cases o <;> exact h2.elim
/-- ints, texts, bools in a list -/
theorem RepL.ints : ∀ {ns : List Int} {vs : List V}, RepL Γ G (ns.map .int) vs → vs = ns.map V.int
  | [], _, h => h.nil_inv
  | n :: ns, _, h => by
    obtain ⟨v, r, rfl, h1, h2⟩ := h.cons_inv
    simp only [Rep] at h1
    rw [h1, RepL.ints h2]; rfl
theorem RepL.strs : ∀ {ns : List Str} {vs : List V}, RepL Γ G (ns.map .str) vs → vs = ns.map V.str
  | [], _, h => h.nil_inv
  | n :: ns, _, h => by
    obtain ⟨v, r, rfl, h1, h2⟩ := h.cons_inv
    simp only [Rep] at h1
    rw [h1, RepL.strs h2]; rfl
theorem RepL.bls : ∀ {ns : List Bool} {vs : List V}, RepL Γ G (ns.map .bl) vs → vs = ns.map V.bl
  | [], _, h => h.nil_inv
  | n :: ns, _, h => by
    obtain ⟨v, r, rfl, h1, h2⟩ := h.cons_inv
    simp only [Rep] at h1
    rw [h1, RepL.bls h2]; rfl
theorem repL_ints : ∀ {ns : List Int}, RepL Γ G (ns.map .int) (ns.map V.int)
  | [] => repL_nil
  | n :: ns => repL_cons (by simp only [Rep]) repL_ints
theorem RepL.of_get : ∀ {ds : List D} {vs : List V}, ds.length = vs.length → (∀ (i : Nat) d v, ds[i]? = some d → vs[i]? = some v → Rep Γ G d v) → RepL Γ G ds vs
  | [], [], _, _ => repL_nil
  | [], _ :: _, h, _ => by simp at h
  | _ :: _, [], h, _ => by simp at h
  | d :: ds, v :: vs, h, k => repL_cons (k 0 d v rfl rfl) (RepL.of_get (by simpa using h) fun i d' v' h1 h2 => k (i + 1) d' v' (by simpa using h1) (by simpa using h2))
end

/-! ### the state -/
/-- what a slot holds, as data: nothing known, a frozen value, a borrowed cell (read alone), an own cell (it may be changed), the object that is being made, the cell that counts what was drawn -/
inductive Sl where
  | no | val (d : D) | bor (d : D) | own (d : D) | slf (c : Nat) (fs : List D) | drw

structure S where
  env : List Sl
  k : Nat
  scr : List Int

/-- what is fixed through a body: the heap at its entry, what of it is frozen, what of it may be changed, the cell that counts what was drawn -/
structure Bs where
  H0 : Hp
  G0 : Hp
  mu : List Addr
  ad : Option (Addr × V)
  pr : List Addr

def Bs.ex (B : Bs) : List Addr := B.mu ++ B.pr
def off (mu : List Addr) (H : Hp) : Hp := fun a => if a ∈ mu then none else H a
theorem off_some {mu : List Addr} {H : Hp} {a : Addr} {o : HO} (h : off mu H a = some o) : a ∉ mu ∧ H a = some o := by
  unfold off at h
  split at h
  · cases h
  · exact ⟨by assumption, h⟩
theorem off_of {mu : List Addr} {H : Hp} {a : Addr} {o : HO} (n : a ∉ mu) (h : H a = some o) : off mu H a = some o := by
  unfold off
  rw [if_neg n]; exact h
theorem off_ex {mu : List Addr} {H : Hp} : Ex (off mu H) H := fun _ _ h => (off_some h).2
theorem off_mono {mu : List Addr} {H H' : Hp} (e : ∀ b o, b ∉ mu → H b = some o → H' b = some o) : Ex (off mu H) (off mu H') := fun a o h => off_of (off_some h).1 (e a o (off_some h).1 (off_some h).2)
theorem off_nil {H : Hp} : off [] H = H := by
  funext a
  simp [off]

def SlOk (Γ : Ctx) (B : Bs) (G H : Hp) : Sl → Option V → Prop
  | .no, _ => True
  | .val d, v => ∃ u, v = some u ∧ Rep Γ G d u
  | .bor d, v => ∃ u, v = some u ∧ RepZ Γ G (off B.mu B.H0) d u
  | .own d, v => ∃ a o, v = some (.ref a) ∧ (a ∉ B.mu ∧ a ∉ B.pr) ∧ B.H0 a = none ∧ G a = none ∧ H a = some o ∧ Cell Γ G d o
  | .slf c fs, v => ∃ p C nm dx fs', v = some (.ref p) ∧ p ∈ B.mu ∧ B.ad = none ∧ Γ.cls c = some (C, nm) ∧ H p = some (.ins C dx fs') ∧ fs'.map (·.1) = nm.take fs.length ∧ RepL Γ G fs (fs'.map (·.2)) ∧ fs.length ≤ nm.length
  | .drw, v => ∃ a sv, B.ad = some (a, sv) ∧ v = some (.ref a)

def isOwn : Option Sl → Prop
  | some (.own _) => True
  | _ => False

def isSlf : Option Sl → Prop
  | some (.slf _ _) => True
  | _ => False
structure SRel (Γ : Ctx) (B : Bs) (s : S) (σ : St) (G H : Hp) : Prop where
  len : s.env.length = σ.length
  slot : ∀ (i : Nat) x, s.env[i]? = some x → SlOk Γ B G H x (σ[i]?.join)
  dist : ∀ (i j : Nat) (a : Addr), isOwn s.env[i]? → isOwn s.env[j]? → σ[i]?.join = some (.ref a) → σ[j]?.join = some (.ref a) → i = j
  gh : Ex G H
  h0 : ∀ b o, b ∉ B.mu → B.H0 b = some o → H b = some o
  g0 : ∀ b, B.H0 b ≠ none → G b = B.G0 b
  mu : ∀ b, b ∈ B.mu → G b = none ∧ B.H0 b ≠ none ∧ H b ≠ none
  drw : ∀ a sv, B.ad = some (a, sv) → a ∈ B.mu ∧ H a = some (.lst [sv, .int s.k]) ∧ Rep Γ G (.scr s.scr) sv
  pr : ∀ b, b ∈ B.pr → G b = none ∧ H b ≠ none ∧ B.H0 b = none
  one : ∀ (i j : Nat), isSlf s.env[i]? → isSlf s.env[j]? → i = j

/-- cells outside mu are kept -/
def HH (mu : List Addr) (H H' : Hp) : Prop := ∀ b o, b ∉ mu → H b = some o → H' b = some o
theorem HH.refl {mu : List Addr} {H : Hp} : HH mu H H := fun _ _ _ h => h
theorem HH.trans {mu : List Addr} {H H1 H2 : Hp} (a : HH mu H H1) (b : HH mu H1 H2) : HH mu H H2 := fun x o n h => b x o n (a x o n h)
theorem HH.of {mu : List Addr} {H H' : Hp} (e : Ex H H') : HH mu H H' := fun b o _ h => e b o h
theorem HH.free {mu : List Addr} {H H' : Hp} {p : Addr} (e : HH mu H H') (n : p ∉ mu) (h : H' p = none) : H p = none := by
  cases q : H p with
  | none => rfl
  | some o =>
    rw [e p o n q] at h
    cases h
theorem HH.zo {mu : List Addr} {H H' : Hp} (e : HH mu H H') : Ex (off mu H) (off mu H') := off_mono e

section
variable {Γ : Ctx} {B : Bs} {s : S} {σ : St} {G G' H H' : Hp} {i : Nat} {d : D} {v : V} {a : Addr} {o : HO}

/-- an operation makes new objects, some of them frozen -/
theorem SRel.grow (R : SRel Γ B s σ G H) (gg : Ex G G') (gh : Ex G' H') (hh : Ex H H') (fr : ∀ b, H b ≠ none → G' b = G b) : SRel Γ B s σ G' H' where
  len := R.len
  slot := fun i x hx => by
    have q := R.slot i x hx
    cases x with
    | no => trivial
    | val d =>
      obtain ⟨u, e, r⟩ := q
      exact ⟨u, e, r.mono gg⟩
    | bor d =>
      obtain ⟨u, e, r⟩ := q
      exact ⟨u, e, r.mono gg fun _ _ h => h⟩
    | own d =>
      obtain ⟨a, o, e, n1, n2, n3, h, c⟩ := q
      exact ⟨a, o, e, n1, n2, (fr a (by rw [h]; simp)).trans n3, hh _ _ h, c.mono gg⟩
    | slf c fs =>
      obtain ⟨p, C, nm, dx, fs', e, n1, n2, h1, h2, h3, h4, h5⟩ := q
      exact ⟨p, C, nm, dx, fs', e, n1, n2, h1, hh _ _ h2, h3, h4.mono gg, h5⟩
    | drw => exact q
  dist := R.dist
  gh := gh
  h0 := fun b o n h => hh b o (R.h0 b o n h)
  g0 := fun b n => by
    have q : H b ≠ none := by
      by_cases m : b ∈ B.mu
      · exact (R.mu b m).2.2
      · cases e : B.H0 b with
        | none => exact absurd e n
        | some o => rw [R.h0 b o m e]; simp
    rw [fr b q]; exact R.g0 b n
  mu := fun b m => by
    have q := R.mu b m
    refine ⟨(fr b q.2.2).trans q.1, q.2.1, ?_⟩
    cases e : H b with
    | none => exact absurd e q.2.2
    | some o => rw [hh b o e]; simp
  drw := fun a sv ha => by
    obtain ⟨m, h, r⟩ := R.drw a sv ha
    exact ⟨m, hh _ _ h, r.mono gg⟩
  one := R.one
  pr := fun b m => by
    have q := R.pr b m
    refine ⟨(fr b q.2.1).trans q.1, ?_, q.2.2⟩
    cases e : H b with
    | none => exact absurd e q.2.1
    | some o => rw [hh b o e]; simp
end
end DL


set_option Elab.async false
set_option linter.all false
set_option maxRecDepth 100000
set_option maxHeartbeats 1000000
namespace DL
open PySem L2
open Evl (Ex)

def S.put (s : S) (i : Nat) (x : Sl) : S := { s with env := s.env.set i x }
/-- no own slot holds p -/
def Apart (s : S) (σ : St) (p : Addr) : Prop := ∀ j : Nat, isOwn s.env[j]? → σ[j]?.join ≠ some (.ref p)

section
variable {Γ : Ctx} {B : Bs} {s : S} {σ : St} {G G' H H' : Hp} {i : Nat} {d d' : D} {v : V} {a p : Addr} {o : HO}

theorem set_get {α : Type} {l : List α} {i j : Nat} {x y : α} (h : (l.set i x)[j]? = some y) : (j = i ∧ x = y ∧ i < l.length) ∨ (j ≠ i ∧ l[j]? = some y) := by
  by_cases e : j = i
  · subst e
    rw [List.getElem?_set] at h
    simp at h
    exact .inl ⟨rfl, h.2, h.1⟩
  · rw [List.getElem?_set_ne (Ne.symm e)] at h
    exact .inr ⟨e, h⟩
theorem isOwn_set {l : List Sl} {i j : Nat} {x : Sl} (h : isOwn (l.set i x)[j]?) : (j = i ∧ isOwn (some x) ∧ i < l.length) ∨ (j ≠ i ∧ isOwn l[j]?) := by
  cases e : (l.set i x)[j]? with
  | none => rw [e] at h; exact h.elim
  | some y =>
    rcases set_get e with ⟨h1, h2, h3⟩ | ⟨h1, h2⟩
    · rw [e, ← h2] at h
      exact .inl ⟨h1, h, h3⟩
    · rw [e] at h
      rw [h2]
      exact .inr ⟨h1, h⟩
theorem join_set {σ : St} {i : Nat} {x : Option V} (h : i < σ.length) : ((σ.set i x)[i]?).join = x := by
  rw [List.getElem?_set_self h]; cases x <;> rfl
theorem join_set_ne {σ : St} {i j : Nat} {x : Option V} (h : j ≠ i) : ((σ.set i x)[j]?).join = (σ[j]?).join := by
  rw [List.getElem?_set_ne (Ne.symm h)]

theorem isSlf_set {l : List Sl} {i j : Nat} {x : Sl} (h : isSlf (l.set i x)[j]?) : (j = i ∧ isSlf (some x)) ∨ (j ≠ i ∧ isSlf l[j]?) := by
  cases e : (l.set i x)[j]? with
  | none => rw [e] at h; exact h.elim
  | some y =>
    rcases set_get e with ⟨h1, h2, h3⟩ | ⟨h1, h2⟩
    · rw [e, ← h2] at h
      exact .inl ⟨h1, h⟩
    · rw [e] at h
      rw [h2]
      exact .inr ⟨h1, h⟩
theorem one_set {l : List Sl} {i : Nat} {x : Sl} (hx : ¬ isSlf (some x)) (h : ∀ (i j : Nat), isSlf l[i]? → isSlf l[j]? → i = j) : ∀ (a b : Nat), isSlf (l.set i x)[a]? → isSlf (l.set i x)[b]? → a = b := fun a b ha hb => by
  rcases isSlf_set ha with ⟨_, h1⟩ | ⟨_, h1⟩
  · exact absurd h1 hx
  · rcases isSlf_set hb with ⟨_, h2⟩ | ⟨_, h2⟩
    · exact absurd h2 hx
    · exact h a b h1 h2
theorem SRel.own_at (R : SRel Γ B s σ G H) {j : Nat} {a : Addr} (h : isOwn s.env[j]?) (e : σ[j]?.join = some (.ref a)) : (a ∉ B.mu ∧ a ∉ B.pr) ∧ B.H0 a = none ∧ G a = none ∧ ∃ o, H a = some o := by
  cases q : s.env[j]? with
  | none => rw [q] at h; exact h.elim
  | some x =>
    rw [q] at h
    cases x with
    | own d =>
      obtain ⟨b, o, e1, n1, n2, n3, hb, _⟩ := R.slot j _ q
      rw [e] at e1
      cases e1
      exact ⟨n1, n2, n3, o, hb⟩
    | _ => exact h.elim
theorem SRel.apart (R : SRel Γ B s σ G H) (h : H p = none) : Apart s σ p := fun j hj e => by
  obtain ⟨_, _, _, o, q⟩ := R.own_at hj e
  rw [h] at q; cases q
theorem SRel.gnone (R : SRel Γ B s σ G H) (h : H p = none) : G p = none := by
  cases q : G p with
  | none => rfl
  | some o => rw [R.gh _ _ q] at h; cases h
theorem SRel.munone (R : SRel Γ B s σ G H) (h : H p = none) : p ∉ B.mu := fun m => (R.mu p m).2.2 h
theorem SRel.prnone (R : SRel Γ B s σ G H) (h : H p = none) : p ∉ B.pr := fun m => (R.pr p m).2.1 h
theorem SRel.h0none (R : SRel Γ B s σ G H) (h : H p = none) : B.H0 p = none := by
  cases q : B.H0 p with
  | none => rfl
  | some o =>
    rw [R.h0 p o (R.munone h) q] at h
    cases h

/-- a name takes a frozen value -/
theorem SRel.set_val (R : SRel Γ B s σ G H) (h : Rep Γ G d v) : SRel Γ B (s.put i (.val d)) (σ.set i (some v)) G H where
  len := by simp [S.put, R.len]
  slot := fun j x hx => by
    rcases set_get hx with ⟨rfl, rfl, hl⟩ | ⟨hj, hx⟩
    · rw [join_set (by rw [← R.len]; exact hl)]
      exact ⟨v, rfl, h⟩
    · rw [join_set_ne hj]
      exact R.slot j x hx
  dist := fun j k a hj hk e1 e2 => by
    rcases isOwn_set hj with ⟨_, h1, _⟩ | ⟨n1, h1⟩
    · exact h1.elim
    · rcases isOwn_set hk with ⟨_, h2, _⟩ | ⟨n2, h2⟩
      · exact h2.elim
      · rw [join_set_ne n1] at e1
        rw [join_set_ne n2] at e2
        exact R.dist j k a h1 h2 e1 e2
  gh := R.gh
  h0 := R.h0
  g0 := R.g0
  mu := R.mu
  drw := R.drw
  pr := R.pr
  one := one_set (fun z => z) R.one
/-- a slot is forgotten -/
theorem SRel.set_no (R : SRel Γ B s σ G H) (x : Option V) : SRel Γ B (s.put i .no) (σ.set i x) G H where
  len := by simp [S.put, R.len]
  slot := fun j x hx => by
    rcases set_get hx with ⟨rfl, rfl, hl⟩ | ⟨hj, hx⟩
    · trivial
    · rw [join_set_ne hj]
      exact R.slot j x hx
  dist := fun j k a hj hk e1 e2 => by
    rcases isOwn_set hj with ⟨_, h1, _⟩ | ⟨n1, h1⟩
    · exact h1.elim
    · rcases isOwn_set hk with ⟨_, h2, _⟩ | ⟨n2, h2⟩
      · exact h2.elim
      · rw [join_set_ne n1] at e1
        rw [join_set_ne n2] at e2
        exact R.dist j k a h1 h2 e1 e2
  gh := R.gh
  h0 := R.h0
  g0 := R.g0
  mu := R.mu
  drw := R.drw
  pr := R.pr
  one := one_set (fun z => z) R.one
/-- a name takes a new cell -/
theorem SRel.set_own (R : SRel Γ B s σ G H) (hm : p ∉ B.mu ∧ p ∉ B.pr) (h0 : B.H0 p = none) (hg : G p = none) (hp : H p = some o) (c : Cell Γ G d o) (ap : Apart s σ p) :
    SRel Γ B (s.put i (.own d)) (σ.set i (some (.ref p))) G H where
  len := by simp [S.put, R.len]
  slot := fun j x hx => by
    rcases set_get hx with ⟨rfl, rfl, hl⟩ | ⟨hj, hx⟩
    · rw [join_set (by rw [← R.len]; exact hl)]
      exact ⟨p, o, rfl, hm, h0, hg, hp, c⟩
    · rw [join_set_ne hj]
      exact R.slot j x hx
  dist := fun j k a hj hk e1 e2 => by
    rcases isOwn_set hj with ⟨rfl, _, hl⟩ | ⟨n1, h1⟩
    · rcases isOwn_set hk with ⟨rfl, _, _⟩ | ⟨n2, h2⟩
      · rfl
      · rw [join_set (by rw [← R.len]; exact hl)] at e1
        rw [join_set_ne n2] at e2
        cases e1
        exact absurd e2 (ap k h2)
    · rcases isOwn_set hk with ⟨rfl, _, hl⟩ | ⟨n2, h2⟩
      · rw [join_set (by rw [← R.len]; exact hl)] at e2
        rw [join_set_ne n1] at e1
        cases e2
        exact absurd e1 (ap j h1)
      · rw [join_set_ne n1] at e1
        rw [join_set_ne n2] at e2
        exact R.dist j k a h1 h2 e1 e2
  gh := R.gh
  h0 := R.h0
  g0 := R.g0
  mu := R.mu
  drw := R.drw
  pr := R.pr
  one := one_set (fun z => z) R.one

/-- a cell that no slot holds is written -/
theorem SRel.upd_free (R : SRel Γ B s σ G H) (hm : p ∉ B.mu) (h0 : B.H0 p = none) (hg : G p = none) (ap : Apart s σ p) : SRel Γ B s σ G (upd H p o) where
  len := R.len
  slot := fun j x hx => by
    have q := R.slot j x hx
    cases x with
    | no => trivial
    | val d => exact q
    | bor d => exact q
    | own d =>
      obtain ⟨a, o', e, n1, n2, n3, h, c⟩ := q
      refine ⟨a, o', e, n1, n2, n3, ?_, c⟩
      rw [upd_ne]
      · exact h
      · rintro rfl
        exact ap j (by rw [hx]; trivial) e
    | slf c fs =>
      obtain ⟨p', C, nm, dx, fs', e, n1, n2, h1, h2, h3⟩ := q
      refine ⟨p', C, nm, dx, fs', e, n1, n2, h1, ?_, h3⟩
      rw [upd_ne]
      · exact h2
      · rintro rfl
        exact hm n1
    | drw => exact q
  dist := R.dist
  gh := fun b u e => by
    rw [upd_ne]
    · exact R.gh b u e
    · rintro rfl
      rw [hg] at e; cases e
  h0 := fun b u n e => by
    rw [upd_ne]
    · exact R.h0 b u n e
    · rintro rfl
      rw [h0] at e; cases e
  g0 := R.g0
  mu := fun b m => by
    refine ⟨(R.mu b m).1, (R.mu b m).2.1, ?_⟩
    rw [upd_ne]
    · exact (R.mu b m).2.2
    · rintro rfl
      exact hm m
  one := R.one
  drw := fun a sv ha => by
    obtain ⟨m, h, r⟩ := R.drw a sv ha
    refine ⟨m, ?_, r⟩
    rw [upd_ne]
    · exact h
    · rintro rfl
      exact hm m
  pr := fun b m => by
    refine ⟨(R.pr b m).1, ?_, (R.pr b m).2.2⟩
    by_cases z : b = p
    · subst z
      rw [upd_same]; simp
    · rw [upd_ne z]
      exact (R.pr b m).2.1

/-- the cell of an own slot is written -/
theorem SRel.write (R : SRel Γ B s σ G H) (hi : s.env[i]? = some (.own d)) (e : σ[i]?.join = some (.ref a)) (c : Cell Γ G d' o) : SRel Γ B (s.put i (.own d')) σ G (upd H a o) := by
  obtain ⟨hm, h0, hg, o1, ho⟩ := R.own_at (by rw [hi]; trivial) e
  have hl : i < s.env.length := (List.getElem?_eq_some_iff.mp hi).1
  -- first the slot is forgotten, then the cell is free
  have R1 : SRel Γ B (s.put i .no) σ G H := by
    have q := R.set_no (i := i) (σ[i]?.join)
    have eσ : σ.set i (σ[i]?.join) = σ := by
      have hl' : i < σ.length := by rw [← R.len]; exact hl
      apply List.ext_getElem?
      intro j
      by_cases z : j = i
      · subst z
        rw [List.getElem?_set_self hl']
        rw [List.getElem?_eq_getElem hl']
        rfl
      · rw [List.getElem?_set_ne (Ne.symm z)]
    rw [eσ] at q
    exact q
  have ap : Apart (s.put i .no) σ a := fun j hj ej => by
    rcases isOwn_set hj with ⟨_, h1, _⟩ | ⟨n1, h1⟩
    · exact h1.elim
    · exact n1 (R.dist j i a h1 (by rw [hi]; trivial) ej e)
  have R2 : SRel Γ B (s.put i .no) σ G (upd H a o) := R1.upd_free hm.1 h0 hg ap
  have R3 := R2.set_own (i := i) hm h0 hg upd_same c ap
  have eS : (s.put i .no).put i (.own d') = s.put i (.own d') := by simp [S.put]
  have eσ : σ.set i (some (.ref a)) = σ := by
    have hl' : i < σ.length := by rw [← R.len]; exact hl
    apply List.ext_getElem?
    intro j
    by_cases z : j = i
    · subst z
      rw [List.getElem?_set_self hl', List.getElem?_eq_getElem hl']
      rw [List.getElem?_eq_getElem hl'] at e
      simpa using e.symm
    · rw [List.getElem?_set_ne (Ne.symm z)]
  rw [eS, eσ] at R3
  exact R3

/-- a cell that no slot holds is frozen -/
theorem SRel.freeze_free (R : SRel Γ B s σ G H) (hpr : p ∉ B.pr) (h0 : B.H0 p = none) (hg : G p = none) (hp : H p = some o) (ap : Apart s σ p) : SRel Γ B s σ (upd G p o) H where
  len := R.len
  slot := fun j x hx => by
    have q := R.slot j x hx
    have gg : Ex G (upd G p o) := Ex.new hg
    cases x with
    | no => trivial
    | val d =>
      obtain ⟨u, e, r⟩ := q
      exact ⟨u, e, r.mono gg⟩
    | bor d =>
      obtain ⟨u, e, r⟩ := q
      exact ⟨u, e, r.mono gg fun _ _ h => h⟩
    | own d =>
      obtain ⟨a, o', e, n1, n2, n3, h, c⟩ := q
      refine ⟨a, o', e, n1, n2, ?_, h, c.mono gg⟩
      rw [upd_ne]
      · exact n3
      · rintro rfl
        exact ap j (by rw [hx]; trivial) e
    | slf c fs =>
      obtain ⟨p', C, nm, dx, fs', e, n1, n2, h1, h2, h3, h4, h5⟩ := q
      exact ⟨p', C, nm, dx, fs', e, n1, n2, h1, h2, h3, h4.mono gg, h5⟩
    | drw => exact q
  dist := R.dist
  gh := fun b u e => by
    by_cases z : b = p
    · subst z
      rw [upd_same] at e
      rw [← e]; exact hp
    · rw [upd_ne z] at e
      exact R.gh b u e
  h0 := R.h0
  g0 := fun b n => by
    rw [upd_ne]
    · exact R.g0 b n
    · rintro rfl
      exact n h0
  mu := fun b m => by
    refine ⟨?_, (R.mu b m).2⟩
    rw [upd_ne]
    · exact (R.mu b m).1
    · rintro rfl
      exact (R.mu b m).2.1 h0
  one := R.one
  drw := fun a sv ha => by
    obtain ⟨m, h, r⟩ := R.drw a sv ha
    exact ⟨m, h, r.mono (Ex.new hg)⟩
  pr := fun b m => by
    refine ⟨?_, (R.pr b m).2⟩
    rw [upd_ne]
    · exact (R.pr b m).1
    · rintro rfl
      exact hpr m
theorem cell_rep (c : Cell Γ G d o) (hp : G' p = some o) (gg : Ex G G') : Rep Γ G' d (.ref p) := by
  cases d <;> cases o <;> simp only [Cell] at c
  · simp only [Rep]
    exact ⟨p, _, rfl, hp, RepL.mono gg _ c⟩
  · simp only [Rep]
    exact ⟨p, _, rfl, hp, c.1, RepL.mono gg _ c.2⟩
  · simp only [Rep]
    exact ⟨p, _, rfl, hp, c.1, RepL.mono gg _ c.2⟩
/-- the cell of an own slot is frozen -/
theorem SRel.freeze (R : SRel Γ B s σ G H) (hi : s.env[i]? = some (.own d)) : ∃ a G', σ[i]?.join = some (.ref a) ∧ SRel Γ B (s.put i (.val d)) σ G' H ∧ Ex G G' ∧ Rep Γ G' d (.ref a) := by
  obtain ⟨a, o, e, hm, h0, hg, ho, c⟩ := R.slot i _ hi
  have hl : i < s.env.length := (List.getElem?_eq_some_iff.mp hi).1
  have hl' : i < σ.length := by rw [← R.len]; exact hl
  have eσ : ∀ x : Option V, σ[i]?.join = x → σ.set i x = σ := fun x hx => by
    apply List.ext_getElem?
    intro j
    by_cases z : j = i
    · subst z
      rw [List.getElem?_set_self hl', List.getElem?_eq_getElem hl']
      rw [List.getElem?_eq_getElem hl'] at hx
      rw [← hx]; rfl
    · rw [List.getElem?_set_ne (Ne.symm z)]
  have R1 : SRel Γ B (s.put i .no) σ G H := by
    have q := R.set_no (i := i) (σ[i]?.join)
    rw [eσ _ rfl] at q
    exact q
  have ap : Apart (s.put i .no) σ a := fun j hj ej => by
    rcases isOwn_set hj with ⟨_, h1, _⟩ | ⟨n1, h1⟩
    · exact h1.elim
    · exact n1 (R.dist j i a h1 (by rw [hi]; trivial) ej e)
  have R2 := R1.freeze_free hm.2 h0 hg ho ap
  have gg : Ex G (upd G a o) := Ex.new hg
  have r : Rep Γ (upd G a o) d (.ref a) := cell_rep c upd_same gg
  have R3 := R2.set_val (i := i) r
  rw [eσ _ e] at R3
  have eS : (s.put i .no).put i (.val d) = s.put i (.val d) := by simp [S.put]
  rw [eS] at R3
  exact ⟨a, _, e, R3, gg, r⟩
end
end DL


set_option Elab.async false
set_option linter.all false
set_option maxRecDepth 100000
set_option maxHeartbeats 1000000
namespace DL
open PySem L2
open Evl (Ex)

abbrev M (α : Type) := S → Option (α × S)
abbrev ClsT := Nat → Option (Addr × List Str)
abbrev Γx (X : Cx) (cls : ClsT) : Ctx := ⟨X.K, cls⟩
def zone (m : Bool) (B : Bs) (H : Hp) : Hp := off B.ex (if m then H else B.H0)
theorem ex_l {B : Bs} {a : Addr} (h : a ∈ B.mu) : a ∈ B.ex := List.mem_append_left _ h
theorem ex_n {B : Bs} {a : Addr} (h : a ∉ B.ex) : a ∉ B.mu := fun z => h (ex_l z)
theorem ex_of {B : Bs} {a : Addr} (h : a ∉ B.mu) (h' : a ∉ B.pr) : a ∉ B.ex := fun z => (List.mem_append.mp z).elim h h'
theorem off_ex_mono {B : Bs} {H H' : Hp} (e : ∀ b o, b ∉ B.mu → H b = some o → H' b = some o) : Ex (off B.ex H) (off B.ex H') := fun a o h => off_of (off_some h).1 (e a o (ex_n (off_some h).1) (off_some h).2)

/-! ### readings by functions on data -/
def tV (Γ : Ctx) (f : M D) : TE := fun σ H Q => ∃ B s G, SRel Γ B s σ G H ∧ ∃ d s', f s = some (d, s') ∧
  ∀ v G' H', SRel Γ B s' σ G' H' → Ex G G' → HH B.mu H H' → Rep Γ G' d v → Q v H'
def tB (Γ : Ctx) (m : Bool) (f : M D) : TE := fun σ H Q => ∃ B s G, SRel Γ B s σ G H ∧ ∃ d s', f s = some (d, s') ∧
  ∀ v G' H', SRel Γ B s' σ G' H' → Ex G G' → HH B.mu H H' → RepZ Γ G' (zone m B H') d v → Q v H'
/-- a new cell -/
def tF (Γ : Ctx) (f : M D) : TE := fun σ H Q => ∃ B s G, SRel Γ B s σ G H ∧ ∃ d s', f s = some (d, s') ∧
  ∀ p o G' H', SRel Γ B s' σ G' H' → Ex G G' → HH B.mu H H' → H p = none → G' p = none → H' p = some o → Cell Γ G' d o → Apart s' σ p → Q (.ref p) H'
def tA (Γ : Ctx) (m : Bool) (f : M (List D)) : TA := fun σ H Q => ∃ B s G, SRel Γ B s σ G H ∧ ∃ d s', f s = some (d, s') ∧
  ∀ v G' H', SRel Γ B s' σ G' H' → Ex G G' → HH B.mu H H' → RepsZ Γ G' (zone m B H') d v → Q v H'
def tT (Γ : Ctx) (f : M Bool) : TT := fun σ H Q => ∃ B s G, SRel Γ B s σ G H ∧ ∃ d s', f s = some (d, s') ∧
  ∀ G' H', SRel Γ B s' σ G' H' → Ex G G' → HH B.mu H H' → Q d H'

theorem zone_mono {m : Bool} {B : Bs} {H H' : Hp} (h : HH B.mu H H') : Ex (zone m B H) (zone m B H') := by
  cases m with
  | true => exact off_ex_mono h
  | false => exact fun _ _ q => q
theorem zone_ex {m : Bool} {Γ : Ctx} {B : Bs} {s : S} {σ : St} {G H : Hp} (R : SRel Γ B s σ G H) : Ex (zone m B H) H := by
  cases m with
  | true => exact off_ex
  | false => exact fun a o q => R.h0 a o (ex_n (off_some q).1) (off_some q).2
theorem bor_zone {Γ : Ctx} {B : Bs} {s : S} {σ : St} {G H : Hp} (R : SRel Γ B s σ G H) : Ex (off B.mu B.H0) (off B.ex B.H0) := fun a o q => off_of (ex_of (off_some q).1 fun z => by
  have e := (R.pr a z).2.2
  rw [(off_some q).2] at e; cases e) (off_some q).2

section
variable {X : Cx} {e : Expr} {t t' : TE}
theorem pe_imp (h : PE X e t) (k : ∀ σ H Q, t' σ H Q → t σ H Q) : PE X e t' := ⟨fun pins s σ H Q I w => h.run pins s σ H Q I (k σ H Q w)⟩
theorem pt_imp {t t' : TT} (h : PT X e t) (k : ∀ σ H Q, t' σ H Q → t σ H Q) : PT X e t' := ⟨fun pins s σ H Q I w => h.run pins s σ H Q I (k σ H Q w)⟩
theorem pw_imp {t t' : TT} (h : PW X e t) (k : ∀ σ H Q, t' σ H Q → t σ H Q) : PW X e t' := ⟨fun wh pins s σ H Q I w => h.run wh pins s σ H Q I (k σ H Q w)⟩
theorem pa_imp {es : List Expr} {t t' : TA} (h : PA X es t) (k : ∀ σ H Q, t' σ H Q → t σ H Q) : PA X es t' := ⟨fun pos pins s σ H Q I w => h.run pos pins s σ H Q I (k σ H Q w)⟩
theorem ps_imp {st : Stmt} {t t' : TS} (h : PS X st t) (k : ∀ D σ H, t' D σ H → t D σ H) : PS X st t' := ⟨fun pins s σ H D I w => h.run pins s σ H D I (k D σ H w)⟩
theorem pss_imp {st : List Stmt} {t t' : TS} (h : PSs X st t) (k : ∀ D σ H, t' D σ H → t D σ H) : PSs X st t' := ⟨fun pins s σ H D I w => h.run pins s σ H D I (k D σ H w)⟩
end

/-! ### the functions on data -/
def eC (d : D) : M D := fun s => some (d, s)
def eVar (i : Nat) : M D := fun s => match s.env[i]? with
  | some (.val d) => some (d, s)
  | some (.own d) => some (d, s.put i (.val d))
  | _ => none
def eVarB (i : Nat) : M D := fun s => match s.env[i]? with
  | some (.val d) => some (d, s)
  | some (.bor d) => some (d, s)
  | some (.own d) => some (d, s)
  | _ => none
/-- in a loop's head: an own cell is frozen -/
def eVarL (i : Nat) : M D := fun s => match s.env[i]? with
  | some (.val d) => some (d, s)
  | some (.bor d) => some (d, s)
  | some (.own d) => some (d, s.put i (.val d))
  | _ => none
def eOp (g : D → D → Option D) (f h : M D) : M D := fun s => (f s).bind fun p => (h p.2).bind fun q => (g p.1 q.1).map fun z => (z, q.2)
def eUn (g : D → Option D) (f : M D) : M D := fun s => (f s).bind fun p => (g p.1).map fun z => (z, p.2)
def eL (f : M (List D)) (g : List D → Option D) : M D := fun s => (f s).bind fun p => (g p.1).map fun z => (z, p.2)
def aNil : M (List D) := fun s => some ([], s)
def aCons (f : M D) (h : M (List D)) : M (List D) := fun s => (f s).bind fun p => (h p.2).map fun q => (p.1 :: q.1, q.2)
def aStar (f : M D) (h : M (List D)) : M (List D) := fun s => (f s).bind fun p => match p.1 with
  | .lst xs => (h p.2).map fun q => (xs ++ q.1, q.2)
  | .tup xs => (h p.2).map fun q => (xs ++ q.1, q.2)
  | _ => none
def bTest (f : M D) : M Bool := fun s => (f s).bind fun p => match p.1 with
  | .bl b => some (b, p.2)
  | _ => none
def bNot (f : M Bool) : M Bool := fun s => (f s).map fun p => (!p.1, p.2)
def bAnd (f h : M Bool) : M Bool := fun s => (f s).bind fun p => if p.1 then h p.2 else some (false, p.2)
def bOr (f h : M Bool) : M Bool := fun s => (f s).bind fun p => if p.1 then some (true, p.2) else h p.2
def eAnd (f h : M D) : M D := fun s => (f s).bind fun p => match p.1 with
  | .bl true => h p.2
  | .bl false => some (.bl false, p.2)
  | _ => none
def eOr (f h : M D) : M D := fun s => (f s).bind fun p => match p.1 with
  | .bl false => h p.2
  | .bl true => some (.bl true, p.2)
  | _ => none
def eNot (f : M D) : M D := fun s => (f s).bind fun p => match p.1 with
  | .bl b => some (.bl (!b), p.2)
  | _ => none
def eIf (c : M Bool) (f h : M D) : M D := fun s => (c s).bind fun p => if p.1 then f p.2 else h p.2
def eChain (g g' : D → D → Option D) (f h l : M D) : M D := fun s => (f s).bind fun p => (h p.2).bind fun q => (g p.1 q.1).bind fun z => match z with
  | .bl true => (l q.2).bind fun r => match g' q.1 r.1 with
    | some (.bl b) => some (.bl b, r.2)
    | _ => none
  | .bl false => some (.bl false, q.2)
  | _ => none
/-- no more than so many in one list -/
def lim : Nat := 100000
theorem lim_le {n : Nat} (h : n ≤ lim) : n ≤ sizeLine := Nat.le_trans h (by decide)
theorem lim_lt {n : Nat} (h : n < lim) : n < sizeLine := Nat.lt_of_lt_of_le h (by decide)
def mkT (ds : List D) : Option D := if ds.length ≤ lim then some (.tup ds) else none
def mkL (ds : List D) : Option D := if ds.length ≤ lim then some (.lst ds) else none

/-! ### from one kind to another -/
section
variable {X : Cx} {cls : ClsT} {a b e : Expr} {f h : M D} {pos : Pos} {m : Bool}
theorem b_of (p : PE X e (tV (Γx X cls) f)) : PE X e (tB (Γx X cls) m f) := pe_imp p fun σ H Q ⟨B, s, G, R, d, s', e1, k⟩ =>
  ⟨B, s, G, R, d, s', e1, fun v G' H' R' gg hh r => k v G' H' R' gg hh (.inl r)⟩
theorem b_ofF (p : PE X e (tF (Γx X cls) f)) : PE X e (tB (Γx X cls) true f) := pe_imp p fun σ H Q ⟨B, s, G, R, d, s', e1, k⟩ =>
  ⟨B, s, G, R, d, s', e1, fun p o G' H' R' gg hh n0 n1 hp c ap => k _ G' H' R' gg hh (.inr ⟨p, o, rfl, off_of (ex_of (R.munone n0) (R.prnone n0)) hp, c⟩)⟩
theorem v_ofF (p : PE X e (tF (Γx X cls) f)) : PE X e (tV (Γx X cls) f) := pe_imp p fun σ H Q ⟨B, s, G, R, d, s', e1, k⟩ =>
  ⟨B, s, G, R, d, s', e1, fun p o G' H' R' gg hh n0 n1 hp c ap => k _ (upd G' p o) H' (R'.freeze_free (R.prnone n0) (R.h0none n0) n1 hp ap) (gg.trans (Ex.new n1)) hh (cell_rep c upd_same (Ex.new n1))⟩
theorem slot_get {σ : St} {i : Nat} {u : V} (h : σ[i]?.join = some u) : σ[i]? = some (some u) := by
  cases q : σ[i]? with
  | none => rw [q] at h; cases h
  | some x => rw [q] at h; cases x with
    | none => cases h
    | some y => cases h; rfl
theorem v_var {i : Nat} (p : PE X e (tVar i)) : PE X e (tV (Γx X cls) (eVar i)) := pe_imp p fun σ H Q ⟨B, s, G, R, d, s', e1, k⟩ => by
  unfold eVar at e1
  split at e1
  · rename_i d' hd
    cases e1
    obtain ⟨u, e2, r⟩ := R.slot i _ hd
    exact ⟨u, slot_get e2, k u G H R (Ex.refl G) HH.refl r⟩
  · rename_i d' hd
    cases e1
    obtain ⟨a, G', e2, R', gg, r⟩ := R.freeze hd
    exact ⟨_, slot_get e2, k _ G' H R' gg HH.refl r⟩
  · cases e1
theorem b_var {i : Nat} (p : PE X e (tVar i)) : PE X e (tB (Γx X cls) true (eVarB i)) := pe_imp p fun σ H Q ⟨B, s, G, R, d, s', e1, k⟩ => by
  unfold eVarB at e1
  split at e1
  · rename_i d' hd
    cases e1
    obtain ⟨u, e2, r⟩ := R.slot i _ hd
    exact ⟨u, slot_get e2, k u G H R (Ex.refl G) HH.refl (.inl r)⟩
  · rename_i d' hd
    cases e1
    obtain ⟨u, e2, r⟩ := R.slot i _ hd
    exact ⟨u, slot_get e2, k u G H R (Ex.refl G) HH.refl (r.mono (Ex.refl G) ((bor_zone R).trans (off_ex_mono fun b o n q => R.h0 b o n q)))⟩
  · rename_i d' hd
    cases e1
    obtain ⟨a, o, e2, n1, n2, n3, ha, c⟩ := R.slot i _ hd
    exact ⟨_, slot_get e2, k _ G H R (Ex.refl G) HH.refl (.inr ⟨a, o, rfl, off_of (ex_of n1.1 n1.2) ha, c⟩)⟩
  · cases e1
theorem l_var {i : Nat} (p : PE X e (tVar i)) : PE X e (tB (Γx X cls) m (eVarL i)) := pe_imp p fun σ H Q ⟨B, s, G, R, d, s', e1, k⟩ => by
  unfold eVarL at e1
  split at e1
  · rename_i d' hd
    cases e1
    obtain ⟨u, e2, r⟩ := R.slot i _ hd
    exact ⟨u, slot_get e2, k u G H R (Ex.refl G) HH.refl (.inl r)⟩
  · rename_i d' hd
    cases e1
    obtain ⟨u, e2, r⟩ := R.slot i _ hd
    refine ⟨u, slot_get e2, k u G H R (Ex.refl G) HH.refl ?_⟩
    cases m with
    | true => exact r.mono (Ex.refl G) ((bor_zone R).trans (off_ex_mono fun b o n q => R.h0 b o n q))
    | false => exact r.mono (Ex.refl G) (bor_zone R)
  · rename_i d' hd
    cases e1
    obtain ⟨a, G', e2, R', gg, r⟩ := R.freeze hd
    exact ⟨_, slot_get e2, k _ G' H R' gg HH.refl (.inl r)⟩
  · cases e1

/-! ### constants -/
theorem v_int {i : Int} {j : Nat} : PE X (.Constant (.int i) j pos) (tV (Γx X cls) (eC (.int i))) := pe_imp pe_int fun σ H Q ⟨B, s, G, R, d, s', e1, k⟩ => by
  cases e1
  exact k _ G H R (Ex.refl G) HH.refl (by simp only [Rep])
theorem v_str {i : Str} {j : Nat} : PE X (.Constant (.str i) j pos) (tV (Γx X cls) (eC (.str i))) := pe_imp pe_str fun σ H Q ⟨B, s, G, R, d, s', e1, k⟩ => by
  cases e1
  exact k _ G H R (Ex.refl G) HH.refl (by simp only [Rep])
theorem v_bl {i : Bool} {j : Nat} : PE X (.Constant (.bool i) j pos) (tV (Γx X cls) (eC (.bl i))) := pe_imp pe_bl fun σ H Q ⟨B, s, G, R, d, s', e1, k⟩ => by
  cases e1
  exact k _ G H R (Ex.refl G) HH.refl (by simp only [Rep])
theorem v_non {j : Nat} : PE X (.Constant .none j pos) (tV (Γx X cls) (eC .non)) := pe_imp pe_non fun σ H Q ⟨B, s, G, R, d, s', e1, k⟩ => by
  cases e1
  exact k _ G H R (Ex.refl G) HH.refl (by simp only [Rep])

/-! ### operators -/
/-- an operation by values answers as g -/
def OpD (Γ : Ctx) (r : R2) (g : D → D → Option D) : Prop := ∀ (G Z H : Hp) (x y : V) (d e z : D) (Q : VK), Ex G H → Ex Z H → RepZ Γ G Z d x → RepZ Γ G Z e y → g d e = some z →
  (∀ v G' H', Ex G G' → Ex G' H' → Ex H H' → (∀ b, H b ≠ none → G' b = G b) → Rep Γ G' z v → Q v H') → r x y H Q
/-- it makes a new cell -/
def OpF (Γ : Ctx) (r : R2) (g : D → D → Option D) : Prop := ∀ (G Z H : Hp) (x y : V) (d e z : D) (Q : VK), Ex G H → Ex Z H → RepZ Γ G Z d x → RepZ Γ G Z e y → g d e = some z →
  (∀ p o, H p = none → Cell Γ G z o → Q (.ref p) (upd H p o)) → r x y H Q
theorem eOp_some {g : D → D → Option D} {f h : M D} {s s' : S} {d : D} (e : eOp g f h s = some (d, s')) : ∃ d1 s1 d2, f s = some (d1, s1) ∧ h s1 = some (d2, s') ∧ g d1 d2 = some d := by
  unfold eOp at e
  cases h1 : f s with
  | none => rw [h1] at e; cases e
  | some p =>
    rw [h1] at e
    cases h2 : h p.2 with
    | none => simp [h2] at e
    | some q =>
      cases h3 : g p.1 q.1 with
      | none => simp [h2, h3] at e
      | some z =>
        simp [h2, h3] at e
        exact ⟨p.1, p.2, q.1, rfl, by rw [h2, ← e.2], by rw [h3, e.1]⟩
theorem t_op {r : R2} {g : D → D → Option D} {ta tb : TE} {Γ : Ctx} (hg : OpD Γ r g) (ha : ta = tB Γ true f) (hb : tb = tB Γ true h) : ∀ σ H Q, tV Γ (eOp g f h) σ H Q → tOp r ta tb σ H Q := by
  subst ha hb
  rintro σ H Q ⟨B, s, G, R, d, s', e1, k⟩
  obtain ⟨d1, s1, d2, h1, h2, h3⟩ := eOp_some e1
  refine ⟨B, s, G, R, d1, s1, h1, fun x G1 H1 R1 gg1 hh1 r1 => ⟨B, s1, G1, R1, d2, s', h2, fun y G2 H2 R2 gg2 hh2 r2 => ?_⟩⟩
  exact hg G2 (zone true B H2) H2 x y d1 d2 d Q R2.gh (zone_ex R2) (r1.mono gg2 (zone_mono hh2)) r2 h3 fun v G' H' gg gh hh fr r =>
    k v G' H' (R2.grow gg gh hh fr) ((gg1.trans gg2).trans gg) ((hh1.trans hh2).trans (HH.of hh)) r
theorem v_op {op : Operator} {r : R2} {g : D → D → Option D} (ho : OpR X (binaryOp op) r) (hg : OpD (Γx X cls) r g) (ha : PE X a (tB (Γx X cls) true f)) (hb : PE X b (tB (Γx X cls) true h)) : PE X (.BinOp a op b pos) (tV (Γx X cls) (eOp g f h)) :=
  pe_imp (pe_op ho ha hb) (t_op hg rfl rfl)
theorem v_cmp {op : CmpOp} {r : R2} {g : D → D → Option D} (ho : OpR X (compareOp op) r) (hg : OpD (Γx X cls) r g) (ha : PE X a (tB (Γx X cls) true f)) (hb : PE X b (tB (Γx X cls) true h)) (hm : behindInMarks op b = false) :
    PE X (.Compare a [op] [b] pos) (tV (Γx X cls) (eOp g f h)) := pe_imp (pe_cmpR ho ha hb hm) (t_op hg rfl rfl)
theorem v_ix {r : R2} {g : D → D → Option D} (ho : IxR X r) (hg : OpD (Γx X cls) r g) (ha : PE X a (tB (Γx X cls) true f)) (hb : PE X b (tB (Γx X cls) true h)) (hs : PlainIx b) : PE X (.Subscript a b pos) (tV (Γx X cls) (eOp g f h)) :=
  pe_imp (pe_ix ho ha hb hs) (t_op hg rfl rfl)
theorem f_op {op : Operator} {r : R2} {g : D → D → Option D} (ho : OpR X (binaryOp op) r) (hg : OpF (Γx X cls) r g) (ha : PE X a (tB (Γx X cls) true f)) (hb : PE X b (tB (Γx X cls) true h)) : PE X (.BinOp a op b pos) (tF (Γx X cls) (eOp g f h)) :=
  pe_imp (pe_op ho ha hb) fun σ H Q ⟨B, s, G, R, d, s', e1, k⟩ => by
    obtain ⟨d1, s1, d2, h1, h2, h3⟩ := eOp_some e1
    refine ⟨B, s, G, R, d1, s1, h1, fun x G1 H1 R1 gg1 hh1 r1 => ⟨B, s1, G1, R1, d2, s', h2, fun y G2 H2 R2 gg2 hh2 r2 => ?_⟩⟩
    refine hg G2 (zone true B H2) H2 x y d1 d2 d Q R2.gh (zone_ex R2) (r1.mono gg2 (zone_mono hh2)) r2 h3 fun p o hp c => ?_
    have R3 := R2.upd_free (p := p) (o := o) (R2.munone hp) (R2.h0none hp) (R2.gnone hp) (R2.apart hp)
    exact k p o G2 _ R3 (gg1.trans gg2) ((hh1.trans hh2).trans (HH.of (Ex.new hp))) ((hh1.trans hh2).free (R2.munone hp) hp) (R2.gnone hp) upd_same c (R2.apart hp)
end
end DL


set_option Elab.async false
set_option linter.all false
set_option maxRecDepth 100000
set_option maxHeartbeats 1000000
namespace DL
open PySem L2
open Evl (Ex)

section
variable {X : Cx} {cls : ClsT} {a b c e : Expr} {es : List Expr} {f h l : M D} {q : M (List D)} {pos p1 p2 : Pos} {m : Bool} {u w : M Bool}

/-! ### argument lists -/
theorem a_nil : PA X [] (tA (Γx X cls) m aNil) := pa_imp pa_nil fun σ H Q ⟨B, s, G, R, d, s', e1, k⟩ => by
  cases e1
  exact k _ G H R (Ex.refl G) HH.refl rfl
theorem a_cons (he : PE X e (tB (Γx X cls) m f)) (hr : PA X es (tA (Γx X cls) m q)) (hs : starEach (e :: es) X.env = (false, eval e X.env) :: starEach es X.env := by rfl) : PA X (e :: es) (tA (Γx X cls) m (aCons f q)) :=
  pa_imp (pa_cons he hr hs) fun σ H Q ⟨B, s, G, R, d, s', e1, k⟩ => by
    unfold aCons at e1
    cases h1 : f s with
    | none => rw [h1] at e1; cases e1
    | some p =>
      cases h2 : q p.2 with
      | none => simp [h1, h2] at e1
      | some r =>
        simp [h1, h2] at e1
        obtain ⟨rfl, rfl⟩ := e1
        exact ⟨B, s, G, R, p.1, p.2, h1, fun x G1 H1 R1 gg1 hh1 r1 => ⟨B, p.2, G1, R1, r.1, r.2, h2, fun xs G2 H2 R2 gg2 hh2 r2 =>
          k _ G2 H2 R2 (gg1.trans gg2) (hh1.trans hh2) ⟨x, xs, rfl, r1.mono gg2 (zone_mono hh2), r2⟩⟩⟩
theorem RepsZ.of_repL {Γ : Ctx} {G Z : Hp} : ∀ {ds : List D} {vs : List V}, RepL Γ G ds vs → RepsZ Γ G Z ds vs
  | [], _, h => h.nil_inv
  | d :: ds, _, h => by
    obtain ⟨v, r, rfl, h1, h2⟩ := h.cons_inv
    exact ⟨v, r, rfl, .inl h1, RepsZ.of_repL h2⟩
theorem RepsZ.append {Γ : Ctx} {G Z : Hp} {es : List D} {ws : List V} : ∀ {ds : List D} {vs : List V}, RepsZ Γ G Z ds vs → RepsZ Γ G Z es ws → RepsZ Γ G Z (ds ++ es) (vs ++ ws)
  | [], _, h, k => by cases h; exact k
  | d :: ds, _, ⟨v, r, e1, h1, h2⟩, k => by
    subst e1
    exact ⟨v, r ++ ws, rfl, h1, RepsZ.append h2 k⟩
theorem a_star {sp : Pos} (he : PE X e (tB (Γx X cls) true f)) (hr : PA X es (tA (Γx X cls) m q)) (hs : starEach (.Starred e sp :: es) X.env = (true, eval e X.env) :: starEach es X.env := by rfl) : PA X (.Starred e sp :: es) (tA (Γx X cls) m (aStar f q)) :=
  pa_imp (StX.pa_star he hr hs) fun σ H Q ⟨B, s, G, R, d, s', e1, k⟩ => by
    unfold aStar at e1
    cases h1 : f s with
    | none => rw [h1] at e1; cases e1
    | some p =>
      obtain ⟨p1, s1⟩ := p
      rw [h1] at e1
      have go : ∀ ds : List D, (∀ {G1 : Hp} {H1 : Hp} {x : V}, SRel (Γx X cls) B s1 σ G1 H1 → RepZ (Γx X cls) G1 (zone true B H1) p1 x → ∃ a vs, x = V.ref a ∧ (SqT X.K H1 a vs ∨ SqL X.K H1 a vs) ∧ RepL (Γx X cls) G1 ds vs) →
          (q s1).map (fun r => (ds ++ r.1, r.2)) = some (d, s') → StX.tStar X.K (tB (Γx X cls) true f) (tA (Γx X cls) m q) σ H Q := fun ds hd e2 => by
        cases h2 : q s1 with
        | none => rw [h2] at e2; cases e2
        | some r =>
          simp [h2] at e2
          obtain ⟨rfl, rfl⟩ := e2
          refine ⟨B, s, G, R, p1, s1, h1, fun x G1 H1 R1 gg1 hh1 r1 => ?_⟩
          obtain ⟨a, vs, ex, hq, rl⟩ := hd R1 r1
          exact ⟨a, vs, ex, hq, B, s1, G1, R1, r.1, r.2, h2, fun xs G2 H2 R2 gg2 hh2 r2 => k _ G2 H2 R2 (gg1.trans gg2) (hh1.trans hh2) ((RepsZ.of_repL (RepL.mono gg2 _ rl)).append r2)⟩
      cases p1 with
      | lst ds =>
        refine go ds (fun {G1 H1 x} R1 r1 => ?_) e1
        obtain ⟨a, vs, ex, hq, rl⟩ := r1.lst R1.gh (zone_ex R1)
        exact ⟨a, vs, ex, .inr (SqL.of hq), rl⟩
      | tup ds =>
        refine go ds (fun {G1 H1 x} R1 r1 => ?_) e1
        obtain ⟨a, vs, ex, hq, rl⟩ := r1.tup R1.gh
        exact ⟨a, vs, ex, .inl (SqT.of hq), rl⟩
      | _ => cases e1
/-- all of them frozen -/
def tAV (Γ : Ctx) (f : M (List D)) : TA := fun σ H Q => ∃ B s G, SRel Γ B s σ G H ∧ ∃ d s', f s = some (d, s') ∧
  ∀ v G' H', SRel Γ B s' σ G' H' → Ex G G' → HH B.mu H H' → RepL Γ G' d v → Q v H'
theorem av_nil : PA X [] (tAV (Γx X cls) aNil) := pa_imp pa_nil fun σ H Q ⟨B, s, G, R, d, s', e1, k⟩ => by
  cases e1
  exact k _ G H R (Ex.refl G) HH.refl repL_nil
theorem av_cons (he : PE X e (tV (Γx X cls) f)) (hr : PA X es (tAV (Γx X cls) q)) (hs : starEach (e :: es) X.env = (false, eval e X.env) :: starEach es X.env := by rfl) : PA X (e :: es) (tAV (Γx X cls) (aCons f q)) :=
  pa_imp (pa_cons he hr hs) fun σ H Q ⟨B, s, G, R, d, s', e1, k⟩ => by
    unfold aCons at e1
    cases h1 : f s with
    | none => rw [h1] at e1; cases e1
    | some p =>
      cases h2 : q p.2 with
      | none => simp [h1, h2] at e1
      | some r =>
        simp [h1, h2] at e1
        obtain ⟨rfl, rfl⟩ := e1
        exact ⟨B, s, G, R, p.1, p.2, h1, fun x G1 H1 R1 gg1 hh1 r1 => ⟨B, p.2, G1, R1, r.1, r.2, h2, fun xs G2 H2 R2 gg2 hh2 r2 =>
          k _ G2 H2 R2 (gg1.trans gg2) (hh1.trans hh2) (repL_cons (r1.mono gg2) r2)⟩⟩
theorem av_star {sp : Pos} (he : PE X e (tB (Γx X cls) true f)) (hr : PA X es (tAV (Γx X cls) q)) (hs : starEach (.Starred e sp :: es) X.env = (true, eval e X.env) :: starEach es X.env := by rfl) : PA X (.Starred e sp :: es) (tAV (Γx X cls) (aStar f q)) :=
  pa_imp (StX.pa_star he hr hs) fun σ H Q ⟨B, s, G, R, d, s', e1, k⟩ => by
    unfold aStar at e1
    cases h1 : f s with
    | none => rw [h1] at e1; cases e1
    | some p =>
      obtain ⟨p1, s1⟩ := p
      rw [h1] at e1
      have go : ∀ ds : List D, (∀ {G1 : Hp} {H1 : Hp} {x : V}, SRel (Γx X cls) B s1 σ G1 H1 → RepZ (Γx X cls) G1 (zone true B H1) p1 x → ∃ a vs, x = V.ref a ∧ (SqT X.K H1 a vs ∨ SqL X.K H1 a vs) ∧ RepL (Γx X cls) G1 ds vs) →
          (q s1).map (fun r => (ds ++ r.1, r.2)) = some (d, s') → StX.tStar X.K (tB (Γx X cls) true f) (tAV (Γx X cls) q) σ H Q := fun ds hd e2 => by
        cases h2 : q s1 with
        | none => rw [h2] at e2; cases e2
        | some r =>
          simp [h2] at e2
          obtain ⟨rfl, rfl⟩ := e2
          refine ⟨B, s, G, R, p1, s1, h1, fun x G1 H1 R1 gg1 hh1 r1 => ?_⟩
          obtain ⟨a, vs, ex, hq, rl⟩ := hd R1 r1
          exact ⟨a, vs, ex, hq, B, s1, G1, R1, r.1, r.2, h2, fun xs G2 H2 R2 gg2 hh2 r2 => k _ G2 H2 R2 (gg1.trans gg2) (hh1.trans hh2) ((RepL.mono gg2 _ rl).append r2)⟩
      cases p1 with
      | lst ds =>
        refine go ds (fun {G1 H1 x} R1 r1 => ?_) e1
        obtain ⟨a, vs, ex, hq, rl⟩ := r1.lst R1.gh (zone_ex R1)
        exact ⟨a, vs, ex, .inr (SqL.of hq), rl⟩
      | tup ds =>
        refine go ds (fun {G1 H1 x} R1 r1 => ?_) e1
        obtain ⟨a, vs, ex, hq, rl⟩ := r1.tup R1.gh
        exact ⟨a, vs, ex, .inl (SqT.of hq), rl⟩
      | _ => cases e1

theorem eL_some {g : List D → Option D} {s s' : S} {d : D} (e : eL q g s = some (d, s')) : ∃ ds, q s = some (ds, s') ∧ g ds = some d := by
  unfold eL at e
  cases h1 : q s with
  | none => rw [h1] at e; cases e
  | some p =>
    rw [h1] at e
    cases h2 : g p.1 with
    | none => simp [h2] at e
    | some z =>
      simp [h2] at e
      exact ⟨p.1, by rw [← e.2], by rw [h2, e.1]⟩
theorem mkT_some {ds : List D} {d : D} (e : mkT ds = some d) : ds.length ≤ lim ∧ d = .tup ds := by
  unfold mkT at e
  split at e
  · cases e; exact ⟨by assumption, rfl⟩
  · cases e
theorem mkL_some {ds : List D} {d : D} (e : mkL ds = some d) : ds.length ≤ lim ∧ d = .lst ds := by
  unfold mkL at e
  split at e
  · cases e; exact ⟨by assumption, rfl⟩
  · cases e
theorem grow_new {Γ : Ctx} {B : Bs} {s : S} {σ : St} {G H : Hp} {p : Addr} {o : HO} (R : SRel Γ B s σ G H) (hp : H p = none) : SRel Γ B s σ (upd G p o) (upd H p o) := by
  have R1 := R.upd_free (p := p) (o := o) (R.munone hp) (R.h0none hp) (R.gnone hp) (R.apart hp)
  exact R1.freeze_free (R.prnone hp) (R.h0none hp) (R.gnone hp) upd_same (R.apart hp)
theorem v_tup {x1 : Nat} (ha : PA X es (tAV (Γx X cls) q)) : PE X (.Tuple es x1 pos) (tV (Γx X cls) (eL q mkT)) := pe_imp (pe_tup ha) fun σ H Q ⟨B, s, G, R, d, s', e1, k⟩ => by
  obtain ⟨ds, h1, h2⟩ := eL_some e1
  obtain ⟨hl, rfl⟩ := mkT_some h2
  refine ⟨B, s, G, R, ds, s', h1, fun vs G1 H1 R1 gg1 hh1 r1 => ⟨lim_le (by rw [← r1.length]; exact hl), fun p hp => ?_⟩⟩
  refine k _ _ _ (grow_new R1 hp) (gg1.trans (Ex.new (R1.gnone hp))) (hh1.trans (HH.of (Ex.new hp))) ?_
  simp only [Rep]
  exact ⟨p, vs, rfl, upd_same, RepL.mono (Ex.new (R1.gnone hp)) _ r1⟩
theorem f_lst (ha : PA X es (tAV (Γx X cls) q)) : PE X (.List es pos) (tF (Γx X cls) (eL q mkL)) := pe_imp (pe_lst ha) fun σ H Q ⟨B, s, G, R, d, s', e1, k⟩ => by
  obtain ⟨ds, h1, h2⟩ := eL_some e1
  obtain ⟨hl, rfl⟩ := mkL_some h2
  refine ⟨B, s, G, R, ds, s', h1, fun vs G1 H1 R1 gg1 hh1 r1 => ⟨lim_le (by rw [← r1.length]; exact hl), fun p hp => ?_⟩⟩
  exact k p _ G1 _ (R1.upd_free (R1.munone hp) (R1.h0none hp) (R1.gnone hp) (R1.apart hp)) gg1 (hh1.trans (HH.of (Ex.new hp))) (hh1.free (R1.munone hp) hp) (R1.gnone hp) upd_same r1 (R1.apart hp)

/-! ### one operand -/
def UnD (Γ : Ctx) (r : V → Hp → VK → Prop) (g : D → Option D) : Prop := ∀ (G Z H : Hp) (x : V) (d z : D) (Q : VK), Ex G H → Ex Z H → RepZ Γ G Z d x → g d = some z →
  (∀ v G' H', Ex G G' → Ex G' H' → Ex H H' → (∀ b, H b ≠ none → G' b = G b) → Rep Γ G' z v → Q v H') → r x H Q
theorem eUn_some {g : D → Option D} {s s' : S} {d : D} (e : eUn g f s = some (d, s')) : ∃ d1, f s = some (d1, s') ∧ g d1 = some d := by
  unfold eUn at e
  cases h1 : f s with
  | none => rw [h1] at e; cases e
  | some p =>
    rw [h1] at e
    cases h2 : g p.1 with
    | none => simp [h2] at e
    | some z =>
      simp [h2] at e
      exact ⟨p.1, by rw [← e.2], by rw [h2, e.1]⟩
theorem v_un {op : UnaryOp} {r : V → Hp → VK → Prop} {g : D → Option D} (ho : UnR X (unaryOp op) r) (hg : UnD (Γx X cls) r g) (ha : PE X a (tB (Γx X cls) true f)) : PE X (.UnaryOp op a pos) (tV (Γx X cls) (eUn g f)) :=
  pe_imp (pe_un ho ha) fun σ H Q ⟨B, s, G, R, d, s', e1, k⟩ => by
    obtain ⟨d1, h1, h2⟩ := eUn_some e1
    refine ⟨B, s, G, R, d1, s', h1, fun x G1 H1 R1 gg1 hh1 r1 => hg G1 (zone true B H1) H1 x d1 d Q R1.gh (zone_ex R1) r1 h2 fun v G' H' gg gh hh fr r => ?_⟩
    exact k v G' H' (R1.grow gg gh hh fr) (gg1.trans gg) (hh1.trans (HH.of hh)) r

/-! ### built-ins by values -/
def CbD (Γ : Ctx) (r : List V → Hp → VK → Prop) (g : List D → Option D) : Prop := ∀ (G Z H : Hp) (xs : List V) (ds : List D) (z : D) (Q : VK), Ex G H → Ex Z H → RepsZ Γ G Z ds xs → g ds = some z →
  (∀ v G' H', Ex G G' → Ex G' H' → Ex H H' → (∀ b, H b ≠ none → G' b = G b) → Rep Γ G' z v → Q v H') → r xs H Q
def CbF (Γ : Ctx) (r : List V → Hp → VK → Prop) (g : List D → Option D) : Prop := ∀ (G Z H : Hp) (xs : List V) (ds : List D) (z : D) (Q : VK), Ex G H → Ex Z H → RepsZ Γ G Z ds xs → g ds = some z →
  (∀ p o, H p = none → Cell Γ G z o → Q (.ref p) (upd H p o)) → r xs H Q
theorem t_cb {r : List V → Hp → VK → Prop} {g : List D → Option D} {Γ : Ctx} (hg : CbD Γ r g) : ∀ σ H Q, tV Γ (eL q g) σ H Q → tCB r (tA Γ true q) σ H Q := by
  rintro σ H Q ⟨B, s, G, R, d, s', e1, k⟩
  obtain ⟨ds, h1, h2⟩ := eL_some e1
  refine ⟨B, s, G, R, ds, s', h1, fun xs G1 H1 R1 gg1 hh1 r1 => hg G1 (zone true B H1) H1 xs ds d Q R1.gh (zone_ex R1) r1 h2 fun v G' H' gg gh hh fr r => ?_⟩
  exact k v G' H' (R1.grow gg gh hh fr) (gg1.trans gg) (hh1.trans (HH.of hh)) r
theorem t_cf {r : List V → Hp → VK → Prop} {g : List D → Option D} {Γ : Ctx} (hg : CbF Γ r g) : ∀ σ H Q, tF Γ (eL q g) σ H Q → tCB r (tA Γ true q) σ H Q := by
  rintro σ H Q ⟨B, s, G, R, d, s', e1, k⟩
  obtain ⟨ds, h1, h2⟩ := eL_some e1
  refine ⟨B, s, G, R, ds, s', h1, fun xs G1 H1 R1 gg1 hh1 r1 => hg G1 (zone true B H1) H1 xs ds d Q R1.gh (zone_ex R1) r1 h2 fun p o hp c => ?_⟩
  exact k p o G1 _ (R1.upd_free (R1.munone hp) (R1.h0none hp) (R1.gnone hp) (R1.apart hp)) gg1 (hh1.trans (HH.of (Ex.new hp))) (hh1.free (R1.munone hp) hp) (R1.gnone hp) upd_same c (R1.apart hp)
theorem v_cb {r : List V → Hp → VK → Prop} {g : List D → Option D} {id : String} {x : Str} (hc : CallR X (.builtin id) r) (hg : CbD (Γx X cls) r g) (hgl : Gl X x) (hm : X.mg x = none) (hv : bootBuiltins x = some (.builtin id)) (ha : PA X (e :: es) (tA (Γx X cls) true q))
    (hn : x ≠ "__name__" := by decide) (hdb : (x == ("__debug__" : Str)) = false := by decide) (hs : starEach (e :: es) X.env = (false, eval e X.env) :: starEach es X.env := by rfl) (hpl : (backTo pos (starEach es X.env)).any (·.1) = false := by rfl) :
    PE X (.Call (.Name x p1) (e :: es) [] pos) (tV (Γx X cls) (eL q g)) := pe_imp (pe_callB hc hgl hm hv ha hn hdb hs hpl) (t_cb hg)
theorem f_cb {r : List V → Hp → VK → Prop} {g : List D → Option D} {id : String} {x : Str} (hc : CallR X (.builtin id) r) (hg : CbF (Γx X cls) r g) (hgl : Gl X x) (hm : X.mg x = none) (hv : bootBuiltins x = some (.builtin id)) (ha : PA X (e :: es) (tA (Γx X cls) true q))
    (hn : x ≠ "__name__" := by decide) (hdb : (x == ("__debug__" : Str)) = false := by decide) (hs : starEach (e :: es) X.env = (false, eval e X.env) :: starEach es X.env := by rfl) (hpl : (backTo pos (starEach es X.env)).any (·.1) = false := by rfl) :
    PE X (.Call (.Name x p1) (e :: es) [] pos) (tF (Γx X cls) (eL q g)) := pe_imp (pe_callB hc hgl hm hv ha hn hdb hs hpl) (t_cf hg)
theorem v_ct {r : List V → Hp → VK → Prop} {g : List D → Option D} {T : String} {x : Str} (hc : CallR X (.type T) r) (hg : CbD (Γx X cls) r g) (hgl : Gl X x) (hm : X.mg x = none) (hv : bootBuiltins x = some (.type T)) (ha : PA X (e :: es) (tA (Γx X cls) true q))
    (hn : x ≠ "__name__" := by decide) (hdb : (x == ("__debug__" : Str)) = false := by decide) (hs : starEach (e :: es) X.env = (false, eval e X.env) :: starEach es X.env := by rfl) (hpl : (backTo pos (starEach es X.env)).any (·.1) = false := by rfl) :
    PE X (.Call (.Name x p1) (e :: es) [] pos) (tV (Γx X cls) (eL q g)) := pe_imp (pe_callTy hc hgl hm hv ha hn hdb hs hpl) (t_cb hg)
theorem f_ct {r : List V → Hp → VK → Prop} {g : List D → Option D} {T : String} {x : Str} (hc : CallR X (.type T) r) (hg : CbF (Γx X cls) r g) (hgl : Gl X x) (hm : X.mg x = none) (hv : bootBuiltins x = some (.type T)) (ha : PA X (e :: es) (tA (Γx X cls) true q))
    (hn : x ≠ "__name__" := by decide) (hdb : (x == ("__debug__" : Str)) = false := by decide) (hs : starEach (e :: es) X.env = (false, eval e X.env) :: starEach es X.env := by rfl) (hpl : (backTo pos (starEach es X.env)).any (·.1) = false := by rfl) :
    PE X (.Call (.Name x p1) (e :: es) [] pos) (tF (Γx X cls) (eL q g)) := pe_imp (pe_callTy hc hgl hm hv ha hn hdb hs hpl) (t_cf hg)

/-! ### tests -/
theorem p_val (he : PE X e (tV (Γx X cls) f)) (hi : ∀ whole, isTrue e X.env whole = (do let v ← whole; standAt e.pos; holding [v] (truthy v)) := by intro _; rfl) : PT X e (tT (Γx X cls) (bTest f)) :=
  pt_imp (pt_val he hi) fun σ H Q ⟨B, s, G, R, d, s', e1, k⟩ => by
    unfold bTest at e1
    cases h1 : f s with
    | none => rw [h1] at e1; cases e1
    | some p =>
      obtain ⟨p1, s1⟩ := p
      rw [h1] at e1
      cases p1 with
      | bl b' =>
        cases e1
        exact ⟨B, s, G, R, _, _, h1, fun v G1 H1 R1 gg hh r => ⟨_, by simpa only [Rep] using r, k G1 H1 R1 gg hh⟩⟩
      | _ => cases e1
theorem bTest_some {s s' : S} {d : Bool} (e : bTest f s = some (d, s')) : f s = some (.bl d, s') := by
  unfold bTest at e
  cases h1 : f s with
  | none => rw [h1] at e; cases e
  | some p =>
    obtain ⟨p1, s1⟩ := p
    rw [h1] at e
    cases p1 with
    | bl b' => cases e; rfl
    | _ => cases e
theorem p_cmp {op : CmpOp} {r : R2} {g : D → D → Option D} (ho : OpR X (compareOp op) r) (hg : OpD (Γx X cls) r g) (ha : PE X a (tB (Γx X cls) true f)) (hb : PE X b (tB (Γx X cls) true h)) (hm : behindInMarks op b = false) :
    PT X (.Compare a [op] [b] pos) (tT (Γx X cls) (bTest (eOp g f h))) := pt_imp (pt_cmpR ho ha hb hm) fun σ H Q ⟨B, s, G, R, d, s', e1, k⟩ => by
  refine t_op hg rfl rfl σ H _ ⟨B, s, G, R, _, s', bTest_some e1, fun v G1 H1 R1 gg hh r => ⟨d, by simpa only [Rep] using r, k G1 H1 R1 gg hh⟩⟩
theorem p_not (ha : PT X a (tT (Γx X cls) u)) : PT X (.UnaryOp .Not a pos) (tT (Γx X cls) (bNot u)) := pt_imp (pt_not ha) fun σ H Q ⟨B, s, G, R, d, s', e1, k⟩ => by
  unfold bNot at e1
  cases h1 : u s with
  | none => rw [h1] at e1; cases e1
  | some p =>
    rw [h1] at e1
    cases e1
    exact ⟨B, s, G, R, p.1, p.2, h1, fun G1 H1 R1 gg hh => k G1 H1 R1 gg hh⟩
theorem t_and {Γ : Ctx} : ∀ σ H Q, tT Γ (bAnd u w) σ H Q → tAnd (tT Γ u) (tT Γ w) σ H Q := by
  rintro σ H Q ⟨B, s, G, R, d, s', e1, k⟩
  unfold bAnd at e1
  cases h1 : u s with
  | none => rw [h1] at e1; cases e1
  | some p =>
    obtain ⟨p1, s1⟩ := p
    rw [h1] at e1
    refine ⟨B, s, G, R, p1, s1, h1, fun G1 H1 R1 gg1 hh1 => ?_⟩
    cases p1 with
    | true => exact ⟨B, s1, G1, R1, d, s', e1, fun G2 H2 R2 gg2 hh2 => k G2 H2 R2 (gg1.trans gg2) (hh1.trans hh2)⟩
    | false =>
      cases e1
      exact k G1 H1 R1 gg1 hh1
theorem t_or {Γ : Ctx} : ∀ σ H Q, tT Γ (bOr u w) σ H Q → tOr (tT Γ u) (tT Γ w) σ H Q := by
  rintro σ H Q ⟨B, s, G, R, d, s', e1, k⟩
  unfold bOr at e1
  cases h1 : u s with
  | none => rw [h1] at e1; cases e1
  | some p =>
    obtain ⟨p1, s1⟩ := p
    rw [h1] at e1
    refine ⟨B, s, G, R, p1, s1, h1, fun G1 H1 R1 gg1 hh1 => ?_⟩
    cases p1 with
    | false => exact ⟨B, s1, G1, R1, d, s', e1, fun G2 H2 R2 gg2 hh2 => k G2 H2 R2 (gg1.trans gg2) (hh1.trans hh2)⟩
    | true =>
      cases e1
      exact k G1 H1 R1 gg1 hh1
theorem w_and1 (ha : PT X a (tT (Γx X cls) u)) : PW X (.BoolOp .And [a] pos) (tT (Γx X cls) u) := pw_and1 ha
theorem w_or1 (ha : PT X a (tT (Γx X cls) u)) : PW X (.BoolOp .Or [a] pos) (tT (Γx X cls) u) := pw_or1 ha
theorem w_and (ha : PT X a (tT (Γx X cls) u)) (hb : PW X (.BoolOp .And (b :: es) pos) (tT (Γx X cls) w)) : PW X (.BoolOp .And (a :: b :: es) pos) (tT (Γx X cls) (bAnd u w)) := pw_imp (pw_and ha hb) t_and
theorem w_or (ha : PT X a (tT (Γx X cls) u)) (hb : PW X (.BoolOp .Or (b :: es) pos) (tT (Γx X cls) w)) : PW X (.BoolOp .Or (a :: b :: es) pos) (tT (Γx X cls) (bOr u w)) := pw_imp (pw_or ha hb) t_or

/-! ### and, or, not as values; a if t else b; a < b < c -/
theorem v_one {op} (ha : PE X a (tV (Γx X cls) f)) : PE X (.BoolOp op [a] pos) (tV (Γx X cls) f) := pe_one ha
theorem v_and (ha : PE X a (tV (Γx X cls) f)) (hb : PE X (.BoolOp .And (b :: es) pos) (tV (Γx X cls) h)) : PE X (.BoolOp .And (a :: b :: es) pos) (tV (Γx X cls) (eAnd f h)) := pe_imp (pe_and ha hb) fun σ H Q ⟨B, s, G, R, d, s', e1, k⟩ => by
  unfold eAnd at e1
  cases h1 : f s with
  | none => rw [h1] at e1; cases e1
  | some p =>
    obtain ⟨p1, s1⟩ := p
    rw [h1] at e1
    refine ⟨B, s, G, R, p1, s1, h1, fun v G1 H1 R1 gg1 hh1 r1 => ?_⟩
    cases p1 with
    | bl b' =>
      refine ⟨b', by simpa only [Rep] using r1, ?_⟩
      cases b' with
      | true => exact ⟨B, s1, G1, R1, d, s', e1, fun v G2 H2 R2 gg2 hh2 r2 => k v G2 H2 R2 (gg1.trans gg2) (hh1.trans hh2) r2⟩
      | false =>
        cases e1
        exact k _ G1 H1 R1 gg1 hh1 (by simp only [Rep])
    | _ => cases e1
theorem v_or (ha : PE X a (tV (Γx X cls) f)) (hb : PE X (.BoolOp .Or (b :: es) pos) (tV (Γx X cls) h)) : PE X (.BoolOp .Or (a :: b :: es) pos) (tV (Γx X cls) (eOr f h)) := pe_imp (pe_or ha hb) fun σ H Q ⟨B, s, G, R, d, s', e1, k⟩ => by
  unfold eOr at e1
  cases h1 : f s with
  | none => rw [h1] at e1; cases e1
  | some p =>
    obtain ⟨p1, s1⟩ := p
    rw [h1] at e1
    refine ⟨B, s, G, R, p1, s1, h1, fun v G1 H1 R1 gg1 hh1 r1 => ?_⟩
    cases p1 with
    | bl b' =>
      refine ⟨b', by simpa only [Rep] using r1, ?_⟩
      cases b' with
      | false => exact ⟨B, s1, G1, R1, d, s', e1, fun v G2 H2 R2 gg2 hh2 r2 => k v G2 H2 R2 (gg1.trans gg2) (hh1.trans hh2) r2⟩
      | true =>
        cases e1
        exact k _ G1 H1 R1 gg1 hh1 (by simp only [Rep])
    | _ => cases e1
theorem v_not (ha : PE X a (tV (Γx X cls) f)) : PE X (.UnaryOp .Not a pos) (tV (Γx X cls) (eNot f)) := pe_imp (pe_not ha) fun σ H Q ⟨B, s, G, R, d, s', e1, k⟩ => by
  unfold eNot at e1
  cases h1 : f s with
  | none => rw [h1] at e1; cases e1
  | some p =>
    obtain ⟨p1, s1⟩ := p
    rw [h1] at e1
    refine ⟨B, s, G, R, p1, s1, h1, fun v G1 H1 R1 gg1 hh1 r1 => ?_⟩
    cases p1 with
    | bl b' =>
      cases e1
      exact ⟨b', by simpa only [Rep] using r1, k _ G1 H1 R1 gg1 hh1 (by simp only [Rep])⟩
    | _ => cases e1
theorem v_if (hc : PT X c (tT (Γx X cls) u)) (ha : PE X a (tV (Γx X cls) f)) (hb : PE X b (tV (Γx X cls) h)) : PE X (.IfExp c a b pos) (tV (Γx X cls) (eIf u f h)) := pe_imp (pe_ifExp hc ha hb) fun σ H Q ⟨B, s, G, R, d, s', e1, k⟩ => by
  unfold eIf at e1
  cases h1 : u s with
  | none => rw [h1] at e1; cases e1
  | some p =>
    obtain ⟨p1, s1⟩ := p
    rw [h1] at e1
    refine ⟨B, s, G, R, p1, s1, h1, fun G1 H1 R1 gg1 hh1 => ?_⟩
    cases p1 with
    | true => exact ⟨B, s1, G1, R1, d, s', e1, fun v G2 H2 R2 gg2 hh2 r2 => k v G2 H2 R2 (gg1.trans gg2) (hh1.trans hh2) r2⟩
    | false => exact ⟨B, s1, G1, R1, d, s', e1, fun v G2 H2 R2 gg2 hh2 r2 => k v G2 H2 R2 (gg1.trans gg2) (hh1.trans hh2) r2⟩
theorem eChain_some {g g' : D → D → Option D} {s s' : S} {d : D} (e : eChain g g' f h l s = some (d, s')) : ∃ d1 s1 d2 s2 z, f s = some (d1, s1) ∧ h s1 = some (d2, s2) ∧ g d1 d2 = some (.bl z) ∧
    ((z = false ∧ d = .bl false ∧ s' = s2) ∨ (z = true ∧ ∃ d3 b, l s2 = some (d3, s') ∧ g' d2 d3 = some (.bl b) ∧ d = .bl b)) := by
  unfold eChain at e
  cases h1 : f s with
  | none => rw [h1] at e; cases e
  | some p =>
    rw [h1] at e
    simp only [Option.bind_some] at e
    cases h2 : h p.2 with
    | none => rw [h2] at e; cases e
    | some q =>
      rw [h2] at e
      simp only [Option.bind_some] at e
      cases h3 : g p.1 q.1 with
      | none => rw [h3] at e; cases e
      | some z =>
        rw [h3] at e
        cases z with
        | bl b =>
          cases b with
          | false =>
            cases e
            exact ⟨p.1, p.2, q.1, q.2, false, rfl, h2, h3, .inl ⟨rfl, rfl, rfl⟩⟩
          | true =>
            simp only [Option.bind_some] at e
            cases h4 : l q.2 with
            | none => rw [h4] at e; cases e
            | some r =>
              rw [h4] at e
              simp only [Option.bind_some] at e
              split at e
              · rename_i b hb
                cases e
                exact ⟨p.1, p.2, q.1, q.2, true, rfl, h2, h3, .inr ⟨rfl, r.1, b, h4, hb, rfl⟩⟩
              · cases e
        | _ => cases e
theorem t_chain {Γ : Ctx} {r r' : R2} {g g' : D → D → Option D} (hg : OpD Γ r g) (hg' : OpD Γ r' g') : ∀ σ H Q, tV Γ (eChain g g' f h l) σ H Q → tChain r r' (tB Γ true f) (tB Γ true h) (tB Γ true l) σ H Q := fun σ H Q ⟨B, s, G, R, d, s', e1, k⟩ => by
  obtain ⟨d1, s1, d2, s2, z, h1, h2, h3, h4⟩ := eChain_some e1
  refine ⟨B, s, G, R, d1, s1, h1, fun x G1 H1 R1 gg1 hh1 r1 => ⟨B, s1, G1, R1, d2, s2, h2, fun y G2 H2 R2 gg2 hh2 r2 => ?_⟩⟩
  refine hg G2 (zone true B H2) H2 x y d1 d2 _ _ R2.gh (zone_ex R2) (r1.mono gg2 (zone_mono hh2)) r2 h3 fun v G3 H3 gg3 gh3 hh3 fr r3 => ⟨z, by simpa only [Rep] using r3, ?_⟩
  have R3 := R2.grow gg3 gh3 hh3 fr
  rcases h4 with ⟨rfl, rfl, rfl⟩ | ⟨rfl, d3, b', h5, h6, rfl⟩
  · exact k _ G3 H3 R3 ((gg1.trans gg2).trans gg3) ((hh1.trans hh2).trans (HH.of hh3)) (by simp only [Rep])
  · refine ⟨B, s2, G3, R3, d3, s', h5, fun w G4 H4 R4 gg4 hh4 r4 => ?_⟩
    refine hg' G4 (zone true B H4) H4 y w d2 d3 _ _ R4.gh (zone_ex R4) ((r2.mono gg3 (zone_mono (HH.of hh3))).mono gg4 (zone_mono hh4)) r4 h6 fun v G5 H5 gg5 gh5 hh5 fr5 r5 => ?_
    exact k v G5 H5 (R4.grow gg5 gh5 hh5 fr5) ((((gg1.trans gg2).trans gg3).trans gg4).trans gg5) ((((hh1.trans hh2).trans (HH.of hh3)).trans hh4).trans (HH.of hh5)) r5
theorem v_chain {op op' : CmpOp} {r r' : R2} {g g' : D → D → Option D} (ho : OpR X (compareOp op) r) (ho' : OpR X (compareOp op') r') (hg : OpD (Γx X cls) r g) (hg' : OpD (Γx X cls) r' g') (ha : PE X a (tB (Γx X cls) true f)) (hb : PE X b (tB (Γx X cls) true h)) (hc : PE X c (tB (Γx X cls) true l))
    (hm : lastMarks [op, op'] [b, c] = false := by with_unfolding_all rfl) : PE X (.Compare a [op, op'] [b, c] pos) (tV (Γx X cls) (eChain g g' f h l)) := pe_imp (pe_chain ho ho' ha hb hc hm) (t_chain hg hg')
theorem p_chain {op op' : CmpOp} {r r' : R2} {g g' : D → D → Option D} (ho : OpR X (compareOp op) r) (ho' : OpR X (compareOp op') r') (hg : OpD (Γx X cls) r g) (hg' : OpD (Γx X cls) r' g') (ha : PE X a (tB (Γx X cls) true f)) (hb : PE X b (tB (Γx X cls) true h)) (hc : PE X c (tB (Γx X cls) true l))
    (hm : lastMarks [op, op'] [b, c] = false := by with_unfolding_all rfl) : PT X (.Compare a [op, op'] [b, c] pos) (tT (Γx X cls) (bTest (eChain g g' f h l))) := pt_imp (pt_chain ho ho' ha hb hc hm) fun σ H Q ⟨B, s, G, R, d, s', e1, k⟩ =>
  t_chain hg hg' σ H _ ⟨B, s, G, R, _, s', bTest_some e1, fun v G1 H1 R1 gg hh r => ⟨d, by simpa only [Rep] using r, k G1 H1 R1 gg hh⟩⟩
end
end DL


set_option Elab.async false
set_option linter.all false
set_option maxRecDepth 100000
set_option maxHeartbeats 1000000
namespace DL
open PySem L2
open Evl (Ex)

/-! ### classes and fields -/
/-- the j-th field's name, at its first place -/
def atN (nm : List Str) (j : Nat) (f : Str) : Bool := decide (nm[j]? = some f) && decide (f ∉ nm.take j)
structure ClsOk (K : PySem.W.Frag) (cls : ClsT) (c : Nat) (C : Addr) (nm : List Str) : Prop where
  is : cls c = some (C, nm)
  cl : Cls K C
  no : ∀ f ∈ nm, NoAttr K C f
theorem lookup_at {f : Str} : ∀ {fs : List (Str × V)} {j : Nat}, (fs.map (·.1))[j]? = some f → f ∉ (fs.map (·.1)).take j → fs.lookup f = (fs.map (·.2))[j]?
  | [], _, h, _ => by simp at h
  | (n, v) :: r, 0, h, _ => by
    have e : n = f := by simpa using h
    subst e
    simp [List.lookup]
  | (n, v) :: r, j + 1, h, k => by
    have h' : (r.map (·.1))[j]? = some f := by simpa using h
    have k1 : ¬ f = n := fun e => k (by simp [e])
    have k2 : f ∉ (r.map (·.1)).take j := fun e => k (by
      simp only [List.map_cons, List.take_succ_cons]
      exact List.mem_cons_of_mem _ e)
    have e : (f == n) = false := by simpa using k1
    simp only [List.lookup_cons, e, List.map_cons, List.getElem?_cons_succ]
    exact lookup_at h' k2
theorem atN_mem {nm : List Str} {j : Nat} {f : Str} (h : atN nm j f = true) : f ∈ nm := by
  unfold atN at h
  simp only [Bool.and_eq_true, decide_eq_true_eq] at h
  exact List.mem_of_getElem? h.1
theorem field_at {Γ : Ctx} {G : Hp} {fs : List D} {fs' : List (Str × V)} {nm : List Str} {j : Nat} {f : Str} {d : D} (hn : fs'.map (·.1) = nm) (ha : atN nm j f = true) (hr : RepL Γ G fs (fs'.map (·.2))) (hd : fs[j]? = some d) :
    ∃ v, fs'.lookup f = some v ∧ Rep Γ G d v := by
  unfold atN at ha
  simp only [Bool.and_eq_true, decide_eq_true_eq] at ha
  obtain ⟨v, e, r⟩ := hr.get hd
  refine ⟨v, ?_, r⟩
  rw [lookup_at (j := j) (by rw [hn]; exact ha.1) (by rw [hn]; exact ha.2)]
  exact e
theorem lookup_none {m : Str} : ∀ {fs : List (Str × V)}, m ∉ fs.map (·.1) → fs.lookup m = none
  | [], _ => rfl
  | (n, v) :: r, h => by
    have k1 : ¬ m = n := fun e => h (by simp [e])
    have e : (m == n) = false := by simpa using k1
    simp only [List.lookup_cons, e]
    exact lookup_none fun q => h (by
      simp only [List.map_cons]
      exact List.mem_cons_of_mem _ q)

def eAttr (c j : Nat) (f : M D) : M D := eUn (fun d => match d with
  | .obj c' fs => if c' = c then fs[j]? else none
  | _ => none) f
section
variable {X : Cx} {cls : ClsT} {a b e o : Expr} {lo hi : Option Expr} {es : List Expr} {f h l : M D} {q : M (List D)} {pos p1 p2 apos : Pos} {m : Bool} {c j k n : Nat} {C : Addr} {nm : List Str}
theorem v_attr {x : Str} (T : ClsOk X.K cls c C nm) (hj : atN nm j x = true) (he : PE X e (tB (Γx X cls) true f)) (hb : attributeBase e x X.env (eval e X.env) = eval e X.env := by rfl) : PE X (.Attribute e x pos) (tV (Γx X cls) (eAttr c j f)) :=
  pe_imp (pe_fld he hb) fun σ H Q ⟨B, s, G, R, d, s', e1, k⟩ => by
    obtain ⟨d1, h1, h2⟩ := eUn_some e1
    refine ⟨B, s, G, R, d1, s', h1, fun x G1 H1 R1 gg hh r => ?_⟩
    cases d1 with
    | obj c' fs =>
      simp only at h2
      split at h2
      · rename_i hc
        subst hc
        obtain ⟨p, C', nm', dx, fs', rfl, ec, hp, hn, hr⟩ := r.obj R1.gh
        have z : some (C', nm') = some (C, nm) := ec.symm.trans T.is
        injection z with z
        injection z with z1 z2
        subst z1 z2
        obtain ⟨v, lv, rv⟩ := field_at hn hj hr h2
        exact ⟨p, _, dx, fs', v, rfl, hp, T.cl, T.no _ (atN_mem hj), lv, k v G1 H1 R1 gg hh rv⟩
      · cases h2
    | _ => cases h2

/-! ### slices -/
def tO (Γ : Ctx) (f : S → Option (Option Int × S)) : TO := fun σ H Q => ∃ B s G, SRel Γ B s σ G H ∧ ∃ d s', f s = some (d, s') ∧ ∀ G' H', SRel Γ B s' σ G' H' → Ex G G' → HH B.mu H H' → Q d H'
def oNone : S → Option (Option Int × S) := fun s => some (none, s)
def oSome (f : M D) : S → Option (Option Int × S) := fun s => (f s).bind fun p => match p.1 with
  | .int i => some (some i, p.2)
  | _ => none
theorem o_none : PO X none (tO (Γx X cls) oNone) := ⟨fun pins s σ H Q I ⟨B, s0, G, R, d, s', e1, k⟩ => by
  cases e1
  exact po_none.run pins s σ H Q I (k G H R (Ex.refl G) HH.refl)⟩
theorem o_some (he : PE X e (tV (Γx X cls) f)) : PO X (some e) (tO (Γx X cls) (oSome f)) := ⟨fun pins s σ H Q I ⟨B, s0, G, R, d, s', e1, k⟩ => by
  refine (po_some he).run pins s σ H Q I ?_
  unfold oSome at e1
  cases h1 : f s0 with
  | none => rw [h1] at e1; cases e1
  | some p =>
    obtain ⟨p1, s1⟩ := p
    rw [h1] at e1
    cases p1 with
    | int i =>
      cases e1
      exact ⟨B, s0, G, R, _, _, h1, fun v G1 H1 R1 gg hh r => ⟨i, by simpa only [Rep] using r, k G1 H1 R1 gg hh⟩⟩
    | _ => cases e1⟩
def cutD (xs : List D) (lo hi : Option Int) : List D := (xs.drop (HT.sIx xs.length 0 lo)).take (HT.sIx xs.length xs.length hi - HT.sIx xs.length 0 lo)
def eSlice (g : D → Option (List D)) (mk : List D → D) (f : M D) (lo hi : S → Option (Option Int × S)) : M D := fun s => (f s).bind fun p => (lo p.2).bind fun q => (hi q.2).bind fun r => (g p.1).map fun xs => (mk (cutD xs q.1 r.1), r.2)
def asLst : D → Option (List D)
  | .lst xs => some xs
  | _ => none
def asTup : D → Option (List D)
  | .tup xs => some xs
  | _ => none
variable {flo fhi : S → Option (Option Int × S)}
theorem eSlice_some {g : D → Option (List D)} {mk : List D → D} {s s' : S} {d : D} (e : eSlice g mk f flo fhi s = some (d, s')) : ∃ d1 s1 l s2 u xs, f s = some (d1, s1) ∧ flo s1 = some (l, s2) ∧ fhi s2 = some (u, s') ∧ g d1 = some xs ∧ d = mk (cutD xs l u) := by
  unfold eSlice at e
  cases h1 : f s with
  | none => rw [h1] at e; cases e
  | some p =>
    cases h2 : flo p.2 with
    | none => simp [h1, h2] at e
    | some q =>
      cases h3 : fhi q.2 with
      | none => simp [h1, h2, h3] at e
      | some r =>
        cases h4 : g p.1 with
        | none => simp [h1, h2, h3, h4] at e
        | some xs =>
          simp [h1, h2, h3, h4] at e
          exact ⟨p.1, p.2, q.1, q.2, r.1, xs, rfl, h2, by rw [h3, ← e.2], h4, e.1.symm⟩
theorem RepL.cut {Γ : Ctx} {G : Hp} {ds : List D} {vs : List V} {lo hi : Option Int} (h : RepL Γ G ds vs) : RepL Γ G (cutD ds lo hi) (cutV vs lo hi) := by
  unfold cutD cutV
  rw [h.length]
  exact (h.drop _).take _
theorem f_slice (he : PE X e (tB (Γx X cls) true f)) (hl : PO X lo (tO (Γx X cls) flo)) (hu : PO X hi (tO (Γx X cls) fhi)) : PE X (.Subscript e (.Slice lo hi none p2) pos) (tF (Γx X cls) (eSlice asLst .lst f flo fhi)) :=
  pe_imp (pe_slice sl_list he hl hu) fun σ H Q ⟨B, s, G, R, d, s', e1, k⟩ => by
    obtain ⟨d1, s1, l, s2, u, xs, h1, h2, h3, h4, rfl⟩ := eSlice_some e1
    refine ⟨B, s, G, R, d1, s1, h1, fun x G1 H1 R1 gg1 hh1 r1 => ⟨B, s1, G1, R1, l, s2, h2, fun G2 H2 R2 gg2 hh2 => ⟨B, s2, G2, R2, u, s', h3, fun G3 H3 R3 gg3 hh3 => ?_⟩⟩⟩
    cases d1 with
    | lst ys =>
      cases h4
      obtain ⟨a, vs, rfl, ha, hr⟩ := (r1.mono (gg2.trans gg3) (zone_mono (hh2.trans hh3))).lst R3.gh (zone_ex R3)
      refine ⟨a, vs, rfl, SqL.of ha, fun p hp => ?_⟩
      exact k p _ G3 _ (R3.upd_free (R3.munone hp) (R3.h0none hp) (R3.gnone hp) (R3.apart hp)) ((gg1.trans gg2).trans gg3) (((hh1.trans hh2).trans hh3).trans (HH.of (Ex.new hp))) (((hh1.trans hh2).trans hh3).free (R3.munone hp) hp) (R3.gnone hp) upd_same (show RepL _ _ _ _ from hr.cut) (R3.apart hp)
    | _ => cases h4
theorem v_sliceT (he : PE X e (tB (Γx X cls) true f)) (hl : PO X lo (tO (Γx X cls) flo)) (hu : PO X hi (tO (Γx X cls) fhi)) : PE X (.Subscript e (.Slice lo hi none p2) pos) (tV (Γx X cls) (eSlice asTup .tup f flo fhi)) :=
  pe_imp (pe_slice sl_tupA he hl hu) fun σ H Q ⟨B, s, G, R, d, s', e1, k⟩ => by
    obtain ⟨d1, s1, l, s2, u, xs, h1, h2, h3, h4, rfl⟩ := eSlice_some e1
    refine ⟨B, s, G, R, d1, s1, h1, fun x G1 H1 R1 gg1 hh1 r1 => ⟨B, s1, G1, R1, l, s2, h2, fun G2 H2 R2 gg2 hh2 => ⟨B, s2, G2, R2, u, s', h3, fun G3 H3 R3 gg3 hh3 => ?_⟩⟩⟩
    cases d1 with
    | tup ys =>
      cases h4
      have r3 := r1.mono (gg2.trans gg3) (zone_mono (hh2.trans hh3))
      obtain ⟨a, vs, rfl, ha, hr⟩ := r3.tup (Ex.refl G3)
      refine ⟨a, vs, rfl, SqT.of (R3.gh _ _ ha), fun hw => ?_, fun _ p hp => ?_⟩
      · have e : cutD xs l u = xs := by
          unfold cutD
          rw [hr.length, hw.1, hw.2]
          simp [← hr.length]
        refine k _ G3 H3 R3 ((gg1.trans gg2).trans gg3) ((hh1.trans hh2).trans hh3) ?_
        rw [e]
        simp only [Rep]
        exact ⟨a, vs, rfl, ha, hr⟩
      · refine k _ _ _ (grow_new R3 hp) (((gg1.trans gg2).trans gg3).trans (Ex.new (R3.gnone hp))) (((hh1.trans hh2).trans hh3).trans (HH.of (Ex.new hp))) ?_
        simp only [Rep]
        exact ⟨p, _, rfl, upd_same, RepL.mono (Ex.new (R3.gnone hp)) _ hr.cut⟩
    | _ => cases h4

/-! ### calls of the text's own defs -/
/-- a def that only makes new things and answers as F -/
def spP (Γ : Ctx) (n : Nat) (F : List D → Option D) : Sp := fun vs H Q _ => ∃ G ds d, Ex G H ∧ ds.length = n ∧ RepsZ Γ G H ds vs ∧ F ds = some d ∧
  ∀ v G' H', Ex G G' → Ex G' H' → Ex H H' → (∀ b, H b ≠ none → G' b = G b) → Rep Γ G' d v → Q v H'
/-- a def that draws: its first argument is the counting cell -/
def spE (Γ : Ctx) (n : Nat) (F : List D → Nat → List Int → Option (D × Nat)) : Sp := fun vs H Q _ => ∃ (ad : Addr) (vs' : List V) (G : Hp) (ds : List D) (d : D) (k k' : Nat) (scr : List Int) (sv : V), vs = .ref ad :: vs' ∧ ds.length = n ∧ H ad = some (.lst [sv, .int k]) ∧ G ad = none ∧ Rep Γ G (.scr scr) sv ∧ Ex G H ∧
  RepsZ Γ G (off [ad] H) ds vs' ∧ F ds k scr = some (d, k') ∧
  ∀ v G' H', Ex G G' → Ex G' H' → HH [ad] H H' → H' ad = some (.lst [sv, .int k']) → (∀ b, H b ≠ none → G' b = G b) → Rep Γ G' d v → Q v H'
/-- __init__: the fields that it leaves -/
def spI (Γ : Ctx) (c : Nat) (n : Nat) (F : List D → Option (List D)) : Sp := fun vs H Q _ => ∃ x vs' G ds fs C nm dx, vs = .ref x :: vs' ∧ ds.length = n ∧ Γ.cls c = some (C, nm) ∧ H x = some (.ins C dx []) ∧ G x = none ∧ Ex G H ∧
  RepsZ Γ G (off [x] H) ds vs' ∧ F ds = some fs ∧
  ∀ G' H' fs' dx', Ex G G' → Ex G' H' → HH [x] H H' → (∀ b, H b ≠ none → G' b = G b) → H' x = some (.ins C dx' fs') → fs'.map (·.1) = nm → RepL Γ G' fs (fs'.map (·.2)) → Q .non H'

def eCallE (i : Nat) (F : List D → Nat → List Int → Option (D × Nat)) (q : M (List D)) : M D := fun s => match s.env[i]? with
  | some .drw => (q s).bind fun p => match p.2.env[i]? with
    | some .drw => (F p.1 p.2.k p.2.scr).map fun r => (r.1, { p.2 with k := r.2 })
    | _ => none
  | _ => none
theorem v_call {x : Str} {F : List D → Option D} (cc : C8.Cal X.prog X.w X.K X.mg X.base k x (spP (Γx X cls) n F) []) (hr : Room j X.A) (hk : k ≤ j) (hg : Gl X x) (ha : PA X (e :: es) (tA (Γx X cls) true q)) (hn : ∀ s ds s', q s = some (ds, s') → ds.length = n)
    (hdb : (x == ("__debug__" : Str)) = false := by decide) (he : starEach (e :: es) X.env = (false, eval e X.env) :: starEach es X.env := by rfl) (hpl : (backTo pos (starEach es X.env)).any (·.1) = false := by rfl) :
    PE X (.Call (.Name x p1) (e :: es) [] pos) (tV (Γx X cls) (eL q F)) := pe_imp (C8.pe_c cc hr hk hg ha hdb he hpl) fun σ H Q ⟨B, s, G, R, d, s', e1, k⟩ => by
  obtain ⟨ds, h1, h2⟩ := eL_some e1
  refine ⟨B, s, G, R, ds, s', h1, fun vs G1 H1 R1 gg hh r => ⟨G1, ds, d, R1.gh, hn _ _ _ h1, ?_, h2, fun v G2 H2 gg2 gh2 hh2 fr r2 => k v G2 H2 (R1.grow gg2 gh2 hh2 fr) (gg.trans gg2) (hh.trans (HH.of hh2)) r2⟩⟩
  rw [List.append_nil]
  exact r.mono (Ex.refl _) (zone_ex R1)
theorem len_nil : ∀ (s : S) ds s', aNil s = some (ds, s') → ds.length = 0 := fun s ds s' e => by cases e; rfl
theorem len_cons (h : ∀ s ds s', q s = some (ds, s') → ds.length = n) : ∀ (s : S) ds s', aCons f q s = some (ds, s') → ds.length = n + 1 := fun s ds s' e => by
  unfold aCons at e
  cases h1 : f s with
  | none => rw [h1] at e; cases e
  | some p =>
    cases h2 : q p.2 with
    | none => simp [h1, h2] at e
    | some r =>
      simp [h1, h2] at e
      rw [← e.1, List.length_cons, h _ _ _ h2]
theorem off_sub {B : Bs} {H : Hp} {a : Addr} (h : a ∈ B.mu) : Ex (off B.ex H) (off [a] H) := fun b o e => off_of (fun q => (off_some e).1 (by simp at q; subst q; exact ex_l h)) (off_some e).2
theorem SRel.drawn {Γ : Ctx} {B : Bs} {s : S} {σ : St} {G H G' H' : Hp} {ad : Addr} {sv : V} {k' : Nat} (R : SRel Γ B s σ G H) (ha : B.ad = some (ad, sv)) (hv : H ad = some (.lst [sv, .int s.k])) (rv : Rep Γ G (.scr s.scr) sv)
    (gg : Ex G G') (gh : Ex G' H') (hh : HH [ad] H H') (h' : H' ad = some (.lst [sv, .int k'])) (fr : ∀ b, H b ≠ none → G' b = G b) : SRel Γ B { s with k := k' } σ G' H' where
  len := R.len
  slot := fun i x hx => by
    have q := R.slot i x hx
    have hm : ad ∈ B.mu := (R.drw ad sv ha).1
    cases x with
    | no => trivial
    | val d =>
      obtain ⟨u, e, r⟩ := q
      exact ⟨u, e, r.mono gg⟩
    | bor d =>
      obtain ⟨u, e, r⟩ := q
      exact ⟨u, e, r.mono gg fun _ _ h => h⟩
    | own d =>
      obtain ⟨a, o, e, n1, n2, n3, h, c⟩ := q
      exact ⟨a, o, e, n1, n2, (fr a (by rw [h]; simp)).trans n3, hh _ _ (fun z => n1.1 (by simp at z; subst z; exact hm)) h, c.mono gg⟩
    | slf c fs =>
      obtain ⟨p, C, nm, dx, fs', e, n1, n2, _⟩ := q
      rw [ha] at n2; cases n2
    | drw => exact q
  dist := R.dist
  gh := gh
  h0 := fun b o n h => hh b o (fun z => n (by simp at z; subst z; exact (R.drw _ _ ha).1)) (R.h0 b o n h)
  g0 := fun b n => by
    have q : H b ≠ none := by
      by_cases m : b ∈ B.mu
      · exact (R.mu b m).2.2
      · cases e : B.H0 b with
        | none => exact absurd e n
        | some o => rw [R.h0 b o m e]; simp
    rw [fr b q]; exact R.g0 b n
  mu := fun b m => by
    have q := R.mu b m
    refine ⟨(fr b q.2.2).trans q.1, q.2.1, ?_⟩
    by_cases z : b = ad
    · subst z
      rw [h']; simp
    · cases e : H b with
      | none => exact absurd e q.2.2
      | some o => rw [hh b o (by simpa using z) e]; simp
  one := R.one
  drw := fun a sv' e => by
    rw [ha] at e
    cases e
    exact ⟨(R.drw _ _ ha).1, h', rv.mono gg⟩
  pr := fun b m => by
    have q := R.pr b m
    refine ⟨(fr b q.2.1).trans q.1, ?_, q.2.2⟩
    by_cases z : b = ad
    · subst z
      rw [h']; simp
    · cases e : H b with
      | none => exact absurd e q.2.1
      | some o => rw [hh b o (by simpa using z) e]; simp
/-- f(draw, ..) -/
theorem v_callE {x : Str} {i : Nat} {F : List D → Nat → List Int → Option (D × Nat)} (cc : C8.Cal X.prog X.w X.K X.mg X.base k x (spE (Γx X cls) n F) []) (hr : Room j X.A) (hk : k ≤ j) (hg : Gl X x) (hd : PE X e (tVar i)) (ha : PA X es (tA (Γx X cls) true q)) (hn : ∀ s ds s', q s = some (ds, s') → ds.length = n)
    (hdb : (x == ("__debug__" : Str)) = false := by decide) (he : starEach (e :: es) X.env = (false, eval e X.env) :: starEach es X.env := by rfl) (hpl : (backTo pos (starEach es X.env)).any (·.1) = false := by rfl) :
    PE X (.Call (.Name x p1) (e :: es) [] pos) (tV (Γx X cls) (eCallE i F q)) := pe_imp (C8.pe_c cc hr hk hg (pa_cons hd ha he) hdb he hpl) fun σ H Q ⟨B, s, G, R, d, s', e1, k⟩ => by
  unfold eCallE at e1
  split at e1
  · rename_i hi
    cases h1 : q s with
    | none => rw [h1] at e1; cases e1
    | some p =>
      rw [h1] at e1
      simp only [Option.bind_some] at e1
      split at e1
      · rename_i hi2
        cases h2 : F p.1 p.2.k p.2.scr with
        | none => rw [h2] at e1; cases e1
        | some r =>
          rw [h2] at e1
          cases e1
          obtain ⟨ad, sv, ea, ev⟩ := R.slot i _ hi
          refine ⟨_, slot_get ev, B, s, G, R, p.1, p.2, h1, fun vs G1 H1 R1 gg hh r1 => ?_⟩
          obtain ⟨hm, hv, rv⟩ := R1.drw ad sv ea
          refine ⟨ad, vs, G1, p.1, r.1, p.2.k, r.2, p.2.scr, sv, by simp, hn _ _ _ h1, hv, (R1.mu ad hm).1, rv, R1.gh, r1.mono (Ex.refl _) (off_sub hm), h2, fun v G2 H2 gg2 gh2 hh2 h' fr r2 => ?_⟩
          refine k v G2 H2 (R1.drawn ea hv rv gg2 gh2 hh2 h' fr) (gg.trans gg2) (hh.trans fun b o n e => hh2 b o (fun z => n (by simp at z; subst z; exact hm)) e) r2
      · cases e1
  · cases e1
def eMeth (F : List D → Option D) (f : M D) (q : M (List D)) : M D := fun s => (f s).bind fun p => (q p.2).bind fun r => (F (p.1 :: r.1)).map fun z => (z, r.2)
def isObj (c : Nat) : D → Bool
  | .obj c' _ => c' == c
  | _ => false
theorem eMeth_some {F : List D → Option D} {s s' : S} {d : D} (e : eMeth F f q s = some (d, s')) : ∃ d1 s1 ds, f s = some (d1, s1) ∧ q s1 = some (ds, s') ∧ F (d1 :: ds) = some d := by
  unfold eMeth at e
  cases h1 : f s with
  | none => rw [h1] at e; cases e
  | some p =>
    cases h2 : q p.2 with
    | none => simp [h1, h2] at e
    | some r =>
      cases h3 : F (p.1 :: r.1) with
      | none => simp [h1, h2, h3] at e
      | some z =>
        simp [h1, h2, h3] at e
        exact ⟨p.1, p.2, r.1, rfl, by rw [h2, ← e.2], by rw [h3, e.1]⟩
/-- F answers for objects of the class c alone -/
def OfCls (c : Nat) (F : List D → Option D) : List D → Option D
  | .obj c' fs :: ds => if c' = c then F (.obj c' fs :: ds) else none
  | _ => none
theorem ofCls_some {F : List D → Option D} {d1 d : D} {ds : List D} (e : OfCls c F (d1 :: ds) = some d) : ∃ fs, d1 = .obj c fs ∧ F (d1 :: ds) = some d := by
  cases d1 with
  | obj c' fs =>
    simp only [OfCls] at e
    split at e
    · rename_i hc
      subst hc
      exact ⟨fs, rfl, e⟩
    · cases e
  | _ => cases e
theorem v_meth {x : Str} {F : List D → Option D} {pl : Sem Bool} (T : ClsOk X.K cls c C nm) (hno : decide (x ∉ nm) = true) (cc : C8.Met X.prog X.w X.K X.mg X.base k C x (spP (Γx X cls) (n + 1) F) []) (hr : Room j X.A) (hk : k ≤ j) (ho : PE X o (tB (Γx X cls) true f)) (ha : PA X (e :: es) (tA (Γx X cls) true q)) (hn : ∀ s ds s', q s = some (ds, s') → ds.length = n)
    (hst : starEach (e :: es) X.env = (false, eval e X.env) :: starEach es X.env := by rfl) (hpl : (backTo pos (starEach es X.env)).any (·.1) = false := by rfl)
    (ht : eval (.Call (.Attribute o x apos) (e :: es) [] pos) X.env = (do
      let ov ← eval o X.env
      standAt apos.atName
      let (f, first) ← holding [ov] (getMethod ov x pl)
      callWith pos f first (backTo pos (starEach (e :: es) X.env)) (backToKw pos (keywordEach [] X.env))) := by rfl) :
    PE X (.Call (.Attribute o x apos) (e :: es) [] pos) (tV (Γx X cls) (eMeth (OfCls c F) f q)) := pe_imp (C8.pe_mt cc hr hk ho ha hst hpl ht) fun σ H Q ⟨B, s, G, R, d, s', e1, k⟩ => by
  obtain ⟨d1, s1, ds, h1, h2, h3⟩ := eMeth_some e1
  obtain ⟨fs, rfl, h4⟩ := ofCls_some h3
  refine ⟨B, s, G, R, _, s1, h1, fun x G1 H1 R1 gg hh r => ?_⟩
  obtain ⟨p, C', nm', dx, fs', rfl, ec, hp, hn', hr'⟩ := r.obj R1.gh
  have z : some (C', nm') = some (C, nm) := ec.symm.trans T.is
  injection z with z
  injection z with z1 z2
  subst z1 z2
  refine ⟨p, dx, fs', rfl, hp, lookup_none (by rw [hn']; simpa using hno), B, s1, G1, R1, ds, s', h2, fun vs G2 H2 R2 gg2 hh2 r2 => ⟨G2, _, d, R2.gh, ?_, ?_, h4, fun v G3 H3 gg3 gh3 hh3 fr r3 =>
    k v G3 H3 (R2.grow gg3 gh3 hh3 fr) ((gg.trans gg2).trans gg3) ((hh.trans hh2).trans (HH.of hh3)) r3⟩⟩
  · rw [List.length_cons, hn _ _ _ h2]
  · rw [List.append_nil]
    exact ⟨_, _, rfl, (r.mono gg2 (zone_mono hh2)).mono (Ex.refl _) (zone_ex R2), r2.mono (Ex.refl _) (zone_ex R2)⟩
theorem v_meth0 {x : Str} {F : List D → Option D} {pl : Sem Bool} (T : ClsOk X.K cls c C nm) (hno : decide (x ∉ nm) = true) (cc : C8.Met X.prog X.w X.K X.mg X.base k C x (spP (Γx X cls) 1 F) []) (hr : Room j X.A) (hk : k ≤ j) (ho : PE X o (tB (Γx X cls) true f))
    (ht : eval (.Call (.Attribute o x apos) [] [] pos) X.env = (do
      let ov ← eval o X.env
      standAt apos.atName
      let (f, first) ← holding [ov] (getMethod ov x pl)
      callWith pos f first (backTo pos (starEach [] X.env)) (backToKw pos (keywordEach [] X.env))) := by rfl) :
    PE X (.Call (.Attribute o x apos) [] [] pos) (tV (Γx X cls) (eMeth (OfCls c F) f aNil)) := pe_imp (C8.pe_mt0 cc hr hk ho ht) fun σ H Q ⟨B, s, G, R, d, s', e1, k⟩ => by
  obtain ⟨d1, s1, ds, h1, h2, h3⟩ := eMeth_some e1
  cases h2
  obtain ⟨fs, rfl, h4⟩ := ofCls_some h3
  refine ⟨B, s, G, R, _, s', h1, fun x G1 H1 R1 gg hh r => ?_⟩
  obtain ⟨p, C', nm', dx, fs', rfl, ec, hp, hn', hr'⟩ := r.obj R1.gh
  have z : some (C', nm') = some (C, nm) := ec.symm.trans T.is
  injection z with z
  injection z with z1 z2
  subst z1 z2
  refine ⟨p, dx, fs', rfl, hp, lookup_none (by rw [hn']; simpa using hno), G1, _, d, R1.gh, rfl, ?_, h4, fun v G3 H3 gg3 gh3 hh3 fr r3 =>
    k v G3 H3 (R1.grow gg3 gh3 hh3 fr) (gg.trans gg3) (hh.trans (HH.of hh3)) r3⟩
  exact ⟨_, _, rfl, r.mono (Ex.refl _) (zone_ex R1), rfl⟩
/-- C(..) -/
theorem v_make {x : Str} {F : List D → Option (List D)} (T : ClsOk X.K cls c C nm) (cc : C8.Mak X.prog X.w X.K X.mg X.base k x C (spI (Γx X cls) c n F) []) (hr : Room j X.A) (hk : k + 1 ≤ j) (hg : Gl X x) (ha : PA X (e :: es) (tA (Γx X cls) true q)) (hn : ∀ s ds s', q s = some (ds, s') → ds.length = n)
    (hdb : (x == ("__debug__" : Str)) = false := by decide) (he : starEach (e :: es) X.env = (false, eval e X.env) :: starEach es X.env := by rfl) (hpl : (backTo pos (starEach es X.env)).any (·.1) = false := by rfl) :
    PE X (.Call (.Name x p1) (e :: es) [] pos) (tV (Γx X cls) (eL q fun ds => (F ds).map (.obj c))) := pe_imp (C8.pe_mk cc hr hk hg ha hdb he hpl) fun σ H Q ⟨B, s, G, R, d, s', e1, k⟩ => by
  obtain ⟨ds, h1, h2⟩ := eL_some e1
  cases h3 : F ds with
  | none => rw [h3] at h2; cases h2
  | some fs =>
    rw [h3] at h2
    cases h2
    refine ⟨B, s, G, R, ds, s', h1, fun vs G1 H1 R1 gg hh r x dx hx hdx ne => ?_⟩
    have hx2 : upd H1 dx (.own x) x = none := by rw [upd_ne (Ne.symm ne)]; exact hx
    have e2 : Ex H1 (upd (upd H1 dx (.own x)) x (.ins C dx [])) := (Ex.new hdx).trans (Ex.new hx2)
    have e3 : Ex H1 (off [x] (upd (upd H1 dx (.own x)) x (.ins C dx []))) := fun b o eb => off_of (by
      intro z
      simp at z
      subst z
      rw [hx] at eb; cases eb) (e2 b o eb)
    refine ⟨x, vs, G1, ds, fs, C, nm, dx, by simp, hn _ _ _ h1, T.is, upd_same, R1.gnone hx, R1.gh.trans e2, (r.mono (Ex.refl _) (zone_ex R1)).mono (Ex.refl _) e3, h3, fun G2 H2 fs' dx' gg2 gh2 hh2 fr hx' hnm hr2 => ⟨rfl, ?_⟩⟩
    -- the new object is frozen
    have h12 : Ex H1 H2 := fun b o eb => hh2 b o (by
      intro z
      simp at z
      subst z
      rw [hx] at eb; cases eb) (e2 b o eb)
    have gx : G2 x = none := (fr x (by rw [upd_same]; simp)).trans (R1.gnone hx)
    have fr' : ∀ b, H1 b ≠ none → G2 b = G1 b := fun b hb => fr b (by
      cases eb : H1 b with
      | none => exact absurd eb hb
      | some o => rw [e2 b o eb]; simp)
    have R2 : SRel (Γx X cls) B s' σ G2 H2 := R1.grow gg2 gh2 h12 fr'
    have ap : Apart s' σ x := R1.apart hx
    have R3 := R2.freeze_free (p := x) (R1.prnone hx) (R1.h0none hx) gx hx' ap
    refine k _ _ _ R3 ((gg.trans gg2).trans (Ex.new gx)) (hh.trans (HH.of h12)) ?_
    simp only [Rep]
    exact ⟨x, C, nm, dx', fs', rfl, T.is, upd_same, hnm, RepL.mono (Ex.new gx) _ hr2⟩
end
end DL


set_option Elab.async false
set_option linter.all false
set_option maxRecDepth 100000
set_option maxHeartbeats 1000000
namespace DL
open PySem L2
open Evl (Ex)

/-! ### what is walked -/
/-- an iterator that gives ds: frozen things stand in G0, the walked cell in Z -/
structure ItD (Γ : Ctx) (G0 Z : Hp) (J : It) (ds : List D) : Prop where
  stop : ∀ H, Ex Z H → Ex G0 H → J.stop ds.length H
  go : ∀ i H, i < ds.length → Ex Z H → Ex G0 H → J.go i H
  yld : ∀ i d x H H' G, ds[i]? = some d → Ex Z H → Ex G0 G → Ex G H → J.yld i H x H' → ∃ G', Ex G G' ∧ Ex G' H' ∧ Ex H H' ∧ (∀ b, H b ≠ none → G' b = G b) ∧ Rep Γ G' d x
def tI (Γ : Ctx) (m : Bool) (f : M (List D)) : TI := fun σ H R => ∃ B s G, SRel Γ B s σ G H ∧ ∃ ds s', f s = some (ds, s') ∧
  ∀ J G' H', SRel Γ B s' σ G' H' → Ex G G' → HH B.mu H H' → ItD Γ G' (zone m B H') J ds → R J H'
def eIt (g : D → Option (List D)) (f : M D) : M (List D) := fun s => (f s).bind fun p => (g p.1).map fun z => (z, p.2)
def eItL (g : List D → Option (List D)) (f : M (List D)) : M (List D) := fun s => (f s).bind fun p => (g p.1).map fun z => (z, p.2)
theorem eIt_some {g : D → Option (List D)} {f : M D} {s s' : S} {ds : List D} (e : eIt g f s = some (ds, s')) : ∃ d, f s = some (d, s') ∧ g d = some ds := by
  unfold eIt at e
  cases h1 : f s with
  | none => rw [h1] at e; cases e
  | some p =>
    rw [h1] at e
    cases h2 : g p.1 with
    | none => simp [h2] at e
    | some z =>
      simp [h2] at e
      exact ⟨p.1, by rw [← e.2], by rw [h2, e.1]⟩
theorem eItL_some {g : List D → Option (List D)} {f : M (List D)} {s s' : S} {ds : List D} (e : eItL g f s = some (ds, s')) : ∃ d, f s = some (d, s') ∧ g d = some ds := by
  unfold eItL at e
  cases h1 : f s with
  | none => rw [h1] at e; cases e
  | some p =>
    rw [h1] at e
    cases h2 : g p.1 with
    | none => simp [h2] at e
    | some z =>
      simp [h2] at e
      exact ⟨p.1, by rw [← e.2], by rw [h2, e.1]⟩
/-- lists and tuples -/
def asSeq : D → Option (List D)
  | .lst xs => some xs
  | .tup xs => some xs
  | _ => none
section
variable {X : Cx} {cls : ClsT} {tg e it a b : Expr} {es : List Expr} {f h : M D} {q : M (List D)} {pos p1 : Pos} {m : Bool} {w1 w2 : TI}
theorem pi_imp {t t' : TI} (h : PI X tg e t) (k : ∀ σ H R, t' σ H R → t σ H R) : PI X tg e t' := ⟨fun pins s σ H R I w => h.run pins s σ H R I (k σ H R w)⟩
theorem pi_or (h1 : PI X tg e w1) (h2 : PI X tg e w2) : PI X tg e (fun σ H R => w1 σ H R ∨ w2 σ H R) := ⟨fun pins s σ H R I w => w.elim (h1.run pins s σ H R I) (h2.run pins s σ H R I)⟩
theorem itl_ok {Γ : Ctx} {G0 Z : Hp} {ds : List D} {a : Addr} {vs : List V} (ha : ∀ H, Ex Z H → Ex G0 H → H a = some (.lst vs)) (hr : RepL Γ G0 ds vs) : ItD Γ G0 Z (Itl Γ.K a) ds where
  stop := fun H z g => ⟨vs, SqL.of (ha H z g), by rw [hr.length]; exact Nat.le_refl _⟩
  go := fun i H hi z g => by
    have hi' : i < vs.length := by rw [← hr.length]; exact hi
    exact ⟨vs, vs[i], SqL.of (ha H z g), by simp [hi']⟩
  yld := fun i d x H H' G hd z g gh y => by
    obtain ⟨e, y⟩ := y
    subst e
    obtain ⟨v, hv, r⟩ := hr.get hd
    have q := y vs (SqL.of (ha H' z (fun b o e => gh b o (g b o e))))
    rw [hv] at q
    cases q
    exact ⟨G, Ex.refl G, gh, Ex.refl _, fun _ _ => rfl, r.mono g⟩
theorem itt_ok {Γ : Ctx} {G0 Z : Hp} {ds : List D} {a : Addr} {vs : List V} (ha : G0 a = some (.tup vs)) (hr : RepL Γ G0 ds vs) : ItD Γ G0 Z (Itt Γ.K a) ds where
  stop := fun H z g => ⟨vs, SqT.of (g _ _ ha), by rw [hr.length]; exact Nat.le_refl _⟩
  go := fun i H hi z g => by
    have hi' : i < vs.length := by rw [← hr.length]; exact hi
    exact ⟨vs, vs[i], SqT.of (g _ _ ha), by simp [hi']⟩
  yld := fun i d x H H' G hd z g gh y => by
    obtain ⟨e, y⟩ := y
    subst e
    obtain ⟨v, hv, r⟩ := hr.get hd
    have q := y vs (SqT.of (gh _ _ (g _ _ ha)))
    rw [hv] at q
    cases q
    exact ⟨G, Ex.refl G, gh, Ex.refl _, fun _ _ => rfl, r.mono g⟩
theorem repZ_lstZ {Γ : Ctx} {G Z : Hp} {ds : List D} {v : V} (h : RepZ Γ G Z (.lst ds) v) : ∃ a vs, v = .ref a ∧ (∀ H, Ex Z H → Ex G H → H a = some (.lst vs)) ∧ RepL Γ G ds vs := by
  rcases h with h | ⟨a, o, e1, h1, h2⟩
  · simp only [Rep] at h
    obtain ⟨a, vs, e1, h1, h2⟩ := h
    exact ⟨a, vs, e1, fun H _ g => g _ _ h1, h2⟩
  · cases o with
    | lst vs => exact ⟨a, vs, e1, fun H z _ => z _ _ h1, h2⟩
    | _ => exact h2.elim
/-- over a list or a tuple -/
theorem i_seq (he : PE X it (tB (Γx X cls) m f)) : PI X tg it (tI (Γx X cls) m (eIt asSeq f)) := pi_imp (pi_or (pi_list he) (pi_tup he)) fun σ H R' ⟨B, s, G, R, ds, s', e1, k⟩ => by
  obtain ⟨d, h1, h2⟩ := eIt_some e1
  cases d with
  | lst xs =>
    cases h2
    refine .inl ⟨B, s, G, R, _, s', h1, fun v G1 H1 R1 gg hh r => ?_⟩
    obtain ⟨a, vs, rfl, ha, hr⟩ := repZ_lstZ r
    exact ⟨a, rfl, ⟨vs, SqL.of (ha H1 (zone_ex R1) R1.gh)⟩, k _ G1 H1 R1 gg hh (itl_ok ha hr)⟩
  | tup xs =>
    cases h2
    refine .inr ⟨B, s, G, R, _, s', h1, fun v G1 H1 R1 gg hh r => ?_⟩
    obtain ⟨a, vs, rfl, ha, hr⟩ := r.tup (Ex.refl G1)
    exact ⟨a, rfl, ⟨vs, SqT.of (R1.gh _ _ ha)⟩, k _ G1 H1 R1 gg hh (itt_ok ha hr)⟩
  | _ => cases h2
/-- ranges -/
def rangeD (lo : Int) (n : Nat) : List D := (List.range n).map fun (i : Nat) => .int (lo + (i : Int))
theorem rangeD_len (lo : Int) (n : Nat) : (rangeD lo n).length = n := by simp [rangeD]
theorem rangeD_get {lo : Int} {n i : Nat} {d : D} (h : (rangeD lo n)[i]? = some d) : d = .int (lo + (i : Int)) ∧ i < n := by
  have hi : i < n := by
    have := (List.getElem?_eq_some_iff.mp h).1
    rwa [rangeD_len] at this
  simp [rangeD, hi] at h
  exact ⟨h.symm, hi⟩
theorem itr_ok {Γ : Ctx} {G0 Z : Hp} {lo : Int} {n : Nat} : ItD Γ G0 Z (Itr lo n) (rangeD lo n) where
  stop := fun H z g => by rw [rangeD_len]; exact Nat.le_refl _
  go := fun i H hi z g => by rw [rangeD_len] at hi; exact hi
  yld := fun i d x H H' G hd z g gh y => by
    obtain ⟨e, y⟩ := y
    subst e y
    obtain ⟨rfl, _⟩ := rangeD_get hd
    exact ⟨G, Ex.refl G, gh, Ex.refl _, fun _ _ => rfl, by simp only [Rep]⟩
def rg1 : List D → Option (List D)
  | [.int n] => if -1000000000 ≤ n ∧ n ≤ 1000000000 then some (rangeD 0 n.toNat) else none
  | _ => none
def rg2 : List D → Option (List D)
  | [.int i, .int j] => if -1000000000 ≤ i ∧ i ≤ 1000000000 ∧ -1000000000 ≤ j ∧ j ≤ 1000000000 then some (rangeD i (j - i).toNat) else none
  | _ => none
theorem repsZ1 {Γ : Ctx} {G Z : Hp} {d : D} {vs : List V} (h : RepsZ Γ G Z [d] vs) : ∃ v, vs = [v] ∧ RepZ Γ G Z d v := by
  obtain ⟨v, r, e, h1, h2⟩ := h
  cases h2
  exact ⟨v, e, h1⟩
theorem repsZ2 {Γ : Ctx} {G Z : Hp} {d d' : D} {vs : List V} (h : RepsZ Γ G Z [d, d'] vs) : ∃ v w, vs = [v, w] ∧ RepZ Γ G Z d v ∧ RepZ Γ G Z d' w := by
  obtain ⟨v, r, e, h1, h2⟩ := h
  obtain ⟨w, rfl, h3⟩ := repsZ1 h2
  exact ⟨v, w, e, h1, h3⟩
theorem i_rg1 (hm : X.mg "range" = none) (ha : PA X [a] (tA (Γx X cls) m q)) (hg : Gl X "range" := by rfl) (hs : starEach [a] X.env = [(false, eval a X.env)] := by rfl) : PI X tg (.Call (.Name "range" p1) [a] [] pos) (tI (Γx X cls) m (eItL rg1 q)) :=
  pi_imp (pi_range1 hg hm ha hs) fun σ H R' ⟨B, s, G, R, ds, s', e1, k⟩ => by
    obtain ⟨d, h1, h2⟩ := eItL_some e1
    unfold rg1 at h2
    split at h2
    · rename_i n
      split at h2
      · rename_i hn
        cases h2
        refine ⟨B, s, G, R, _, s', h1, fun vs G1 H1 R1 gg hh r => ?_⟩
        obtain ⟨v, rfl, r1⟩ := repsZ1 r
        have e := r1.int
        subst e
        exact ⟨n, rfl, by omega, by omega, k _ G1 H1 R1 gg hh itr_ok⟩
      · cases h2
    · cases h2
theorem i_rg2 (hm : X.mg "range" = none) (ha : PA X [a, b] (tA (Γx X cls) m q)) (hg : Gl X "range" := by rfl) (hs : starEach [a, b] X.env = [(false, eval a X.env), (false, eval b X.env)] := by rfl) (hs2 : starEach [b] X.env = [(false, eval b X.env)] := by rfl) :
    PI X tg (.Call (.Name "range" p1) [a, b] [] pos) (tI (Γx X cls) m (eItL rg2 q)) :=
  pi_imp (pi_range2 hg hm ha hs hs2) fun σ H R' ⟨B, s, G, R, ds, s', e1, k⟩ => by
    obtain ⟨d, h1, h2⟩ := eItL_some e1
    unfold rg2 at h2
    split at h2
    · rename_i i j
      split at h2
      · rename_i hn
        cases h2
        refine ⟨B, s, G, R, _, s', h1, fun vs G1 H1 R1 gg hh r => ?_⟩
        obtain ⟨v, w, rfl, r1, r2⟩ := repsZ2 r
        have e := r1.int
        subst e
        have e := r2.int
        subst e
        exact ⟨i, j, rfl, by omega, k _ G1 H1 R1 gg hh itr_ok⟩
      · cases h2
    · cases h2
/-- enumerate(a list) -/
def enumD (xs : List D) : List D := xs.zipIdx.map fun p => .tup [.int (p.2 : Int), p.1]
theorem enumD_len (xs : List D) : (enumD xs).length = xs.length := by simp [enumD]
theorem enumD_get {xs : List D} {i : Nat} {d : D} (h : (enumD xs)[i]? = some d) : ∃ x, xs[i]? = some x ∧ d = .tup [.int (i : Int), x] := by
  unfold enumD at h
  rw [List.getElem?_map, List.getElem?_zipIdx] at h
  cases e : xs[i]? with
  | none => simp [e] at h
  | some x =>
    simp [e] at h
    exact ⟨x, rfl, h.symm⟩
theorem ite_ok {Γ : Ctx} {G0 Z : Hp} {ds : List D} {a : Addr} {vs : List V} (ha : ∀ H, Ex Z H → Ex G0 H → H a = some (.lst vs)) (hr : RepL Γ G0 ds vs) : ItD Γ G0 Z (Ite Γ.K a) (enumD ds) where
  stop := fun H z g => ⟨vs, SqL.of (ha H z g), by rw [enumD_len, hr.length]; exact Nat.le_refl _⟩
  go := fun i H hi z g => by
    have hi' : i < vs.length := by rw [← hr.length]; rwa [enumD_len] at hi
    exact ⟨vs, vs[i], SqL.of (ha H z g), by simp [hi']⟩
  yld := fun i d x H H' G hd z g gh y => by
    obtain ⟨T, x', rfl, hT, rfl, y⟩ := y
    obtain ⟨d', hd', rfl⟩ := enumD_get hd
    obtain ⟨v, hv, r⟩ := hr.get hd'
    have q := y vs (SqL.of (ha H z (fun b o e => gh b o (g b o e))))
    rw [hv] at q
    cases q
    have gT : G T = none := by
      cases e : G T with
      | none => rfl
      | some o => rw [gh _ _ e] at hT; cases hT
    refine ⟨upd G T (.tup [.int (i : Nat), x']), Ex.new gT, fun b o e => ?_, Ex.new hT, fun b hb => ?_, ?_⟩
    · by_cases z : b = T
      · subst z
        rw [upd_same] at e ⊢
        exact e
      · rw [upd_ne z] at e ⊢
        exact gh b o e
    · rw [upd_ne]
      rintro rfl
      exact hb hT
    · simp only [Rep]
      exact ⟨T, _, rfl, upd_same, repL_cons (by simp only [Rep]) (repL_cons ((r.mono g).mono (Ex.new gT)) repL_nil)⟩
def enL : List D → Option (List D)
  | [.lst xs] => some (enumD xs)
  | _ => none
variable {elts : List Expr} {kk : Nat} {tpos : Pos}
theorem i_enumL (hm : X.mg "enumerate" = none) (ha : PA X [e] (tA (Γx X cls) m q)) (hg : Gl X "enumerate" := by rfl) (hs : starEach [e] X.env = [(false, eval e X.env)] := by rfl) : PI X (.Tuple elts kk tpos) (.Call (.Name "enumerate" p1) [e] [] pos) (tI (Γx X cls) m (eItL enL q)) :=
  pi_imp (pi_enum hg hm ha hs) fun σ H R' ⟨B, s, G, R, ds, s', e1, k⟩ => by
    obtain ⟨d, h1, h2⟩ := eItL_some e1
    unfold enL at h2
    split at h2
    · rename_i xs
      cases h2
      refine ⟨B, s, G, R, _, s', h1, fun vs G1 H1 R1 gg hh r => ?_⟩
      obtain ⟨v, rfl, r1⟩ := repsZ1 r
      obtain ⟨a, vs, rfl, ha, hr⟩ := repZ_lstZ r1
      exact ⟨a, vs, rfl, SqL.of (ha H1 (zone_ex R1) R1.gh), k _ G1 H1 R1 gg hh (ite_ok ha hr)⟩
    · cases h2

/-! ### targets -/
abbrev Bd := D → S → Option S
def bName (i : Nat) : Bd := fun d s => some (s.put i (.val d))
def bNil : List D → S → Option S
  | [], s => some s
  | _, _ => none
def bCons (f : Bd) (g : List D → S → Option S) : List D → S → Option S
  | d :: ds, s => (f d s).bind (g ds)
  | [], _ => none
def bTup (n : Nat) (g : List D → S → Option S) : Bd := fun d s => match d with
  | .tup ds => if ds.length = n then g ds s else none
  | _ => none
/-- all but the places ix stand -/
def Kp (ix : List Nat) (σ σ' : St) : Prop := σ'.length = σ.length ∧ ∀ j : Nat, j ∉ ix → σ'[j]? = σ[j]?
theorem Kp.refl {ix : List Nat} {σ : St} : Kp ix σ σ := ⟨rfl, fun _ _ => rfl⟩
theorem Kp.trans {i1 i2 : List Nat} {σ σ1 σ2 : St} (a : Kp i1 σ σ1) (b : Kp i2 σ1 σ2) : Kp (i1 ++ i2) σ σ2 := ⟨b.1.trans a.1, fun j hj => by
  rw [b.2 j (fun z => hj (List.mem_append_right _ z)), a.2 j (fun z => hj (List.mem_append_left _ z))]⟩
def tG (Γ : Ctx) (ix : List Nat) (b : Bd) : TG := fun v σ H Q => ∃ B s G d s', SRel Γ B s σ G H ∧ Rep Γ G d v ∧ b d s = some s' ∧ ∀ σ', SRel Γ B s' σ' G H → Kp ix σ σ' → Q σ' H
def tGs (Γ : Ctx) (ix : List Nat) (b : List D → S → Option S) : TGs := fun vs σ H Q => ∃ B s G ds s', SRel Γ B s σ G H ∧ RepL Γ G ds vs ∧ b ds s = some s' ∧ ∀ σ', SRel Γ B s' σ' G H → Kp ix σ σ' → Q σ' H
theorem pg_imp {t t' : TG} (h : PG X tg t) (k : ∀ v σ H Q, t' v σ H Q → t v σ H Q) : PG X tg t' := ⟨fun pins s σ H v u Q I r w => h.run pins s σ H v u Q I r (k v σ H Q w)⟩
theorem pgs_imp {t t' : TGs} (h : PGs X es t) (k : ∀ v σ H Q, t' v σ H Q → t v σ H Q) : PGs X es t' := ⟨fun pins s σ H v u Q I r w => h.run pins s σ H v u Q I r (k v σ H Q w)⟩
theorem g_name {i : Nat} (h : PG X tg (gName i)) : PG X tg (tG (Γx X cls) [i] (bName i)) := pg_imp h fun v σ H Q ⟨B, s, G, d, s', R, r, e, k⟩ => by
  cases e
  refine k _ (R.set_val r) ⟨by simp, fun j hj => ?_⟩
  have : i ≠ j := fun z => hj (by simp [z])
  rw [List.getElem?_set_ne this]
theorem gs_nil : PGs X [] (tGs (Γx X cls) [] bNil) := pgs_imp pgs_nil fun v σ H Q ⟨B, s, G, ds, s', R, r, e, k⟩ => by
  cases ds with
  | nil =>
    cases e
    exact ⟨r.nil_inv, k σ R Kp.refl⟩
  | cons d ds => cases e
theorem gs_cons {i1 i2 : List Nat} {f : Bd} {g : List D → S → Option S} (h1 : PG X e (tG (Γx X cls) i1 f)) (h2 : PGs X es (tGs (Γx X cls) i2 g)) (hs : (assignEach (e :: es) X.env).map (·.2) = assign e X.env :: (assignEach es X.env).map (·.2) := by rfl) :
    PGs X (e :: es) (tGs (Γx X cls) (i1 ++ i2) (bCons f g)) := pgs_imp (pgs_cons h1 h2 hs) fun v σ H Q ⟨B, s, G, ds, s', R, r, e, k⟩ => by
  cases ds with
  | nil => cases e
  | cons d ds =>
    obtain ⟨v1, vr, rfl, r1, r2⟩ := r.cons_inv
    have e : (f d s).bind (g ds) = some s' := e
    cases h : f d s with
    | none => rw [h] at e; cases e
    | some s1 =>
      rw [h] at e
      exact ⟨v1, vr, rfl, B, s, G, d, s1, R, r1, h, fun σ1 R1 k1 => ⟨B, s1, G, ds, s', R1, r2, e, fun σ2 R2 k2 => k σ2 R2 (k1.trans k2)⟩⟩
theorem g_tup {ix : List Nat} {g : List D → S → Option S} {n k : Nat} (hc : X.calm = true) (h : PGs X es (tGs (Γx X cls) ix g)) (hn : (assignEach es X.env).length = n := by rfl) (hst : (assignEach es X.env).findIdx? (·.1) = none := by rfl) :
    PG X (.Tuple es k pos) (tG (Γx X cls) ix (bTup n g)) := pg_imp (pg_tup hc h hn hst) fun v σ H Q ⟨B, s, G, d, s', R, r, e, k⟩ => by
  cases d with
  | tup ds =>
    unfold bTup at e
    simp only at e
    split at e
    · rename_i hl
      simp only [Rep] at r
      obtain ⟨a, vs, rfl, ha, hr⟩ := r
      exact ⟨a, vs, rfl, SqT.of (R.gh _ _ ha), by rw [← hr.length]; exact hl, B, s, G, ds, s', R, hr, e, k⟩
    · cases e
  | _ => cases e
end
end DL


set_option Elab.async false
set_option linter.all false
set_option maxRecDepth 100000
set_option maxHeartbeats 1000000
namespace DL
open PySem L2
open Evl (Ex)

/-! ### a block's names forgotten, and put back -/
def wipeE (env : List Sl) : List Nat → List Sl
  | [] => env
  | v :: vs => (wipeE env vs).set v .no
def S.wipe (s : S) (vs : List Nat) : S := { s with env := wipeE s.env vs }
def rsS : Option Sl → Sl
  | some (.val d) => .val d
  | some (.bor d) => .bor d
  | _ => .no
def restE (old new : List Sl) : List Nat → List Sl
  | [] => new
  | v :: vs => (restE old new vs).set v (rsS old[v]?)
/-- s, its names at vs as they were in old -/
def S.rest (s old : S) (vs : List Nat) : S := { s with env := restE old.env s.env vs }

section
variable {Γ : Ctx} {B : Bs} {s s1 : S} {σ σ' : St} {G G' H H' : Hp} {d : D} {v : V} {p : Addr} {o : HO} {vs ix : List Nat}
theorem SRel.wipe (R : SRel Γ B s σ G H) : ∀ vs : List Nat, SRel Γ B (s.wipe vs) (wipe σ vs) G H
  | [] => R
  | v :: vs => (R.wipe vs).set_no (i := v) none
theorem wipe_in {σ : St} {j : Nat} : ∀ {vs : List Nat}, j ∈ vs → (L2.wipe σ vs)[j]? = if j < σ.length then some none else none
  | v :: vs, h => by
    unfold L2.wipe
    by_cases e : j = v
    · subst e
      rw [List.getElem?_set]
      simp [wipe_length]
    · rw [List.getElem?_set_ne (Ne.symm e)]
      rcases List.mem_cons.mp h with z | z
      · exact absurd z e
      · exact wipe_in z
theorem wipe_kp (k : Kp vs σ σ') : L2.wipe σ' vs = L2.wipe σ vs := by
  apply List.ext_getElem?
  intro j
  by_cases h : j ∈ vs
  · rw [wipe_in h, wipe_in h, k.1]
  · rw [wipe_out h, wipe_out h, k.2 j h]
theorem kp_wipe (σ : St) (vs : List Nat) : Kp vs σ (L2.wipe σ vs) := ⟨wipe_length σ vs, fun j hj => wipe_out hj⟩
theorem Kp.mono (k : Kp ix σ σ') (h : ∀ i ∈ ix, i ∈ vs) : Kp vs σ σ' := ⟨k.1, fun j hj => k.2 j fun z => hj (h j z)⟩
theorem wipe_wipe (σ : St) (vs : List Nat) : L2.wipe (L2.wipe σ vs) vs = L2.wipe σ vs := wipe_kp (kp_wipe σ vs)
theorem restE_len (old new : List Sl) : ∀ vs : List Nat, (restE old new vs).length = new.length
  | [] => rfl
  | v :: vs => by unfold restE; rw [List.length_set, restE_len old new vs]
theorem restE_get {old new : List Sl} {i : Nat} {x : Sl} : ∀ {vs : List Nat}, (restE old new vs)[i]? = some x → (i ∈ vs ∧ x = rsS old[i]?) ∨ (i ∉ vs ∧ new[i]? = some x)
  | [], h => .inr ⟨by simp, h⟩
  | v :: vs, h => by
    unfold restE at h
    rcases set_get h with ⟨rfl, e, _⟩ | ⟨n, h⟩
    · exact .inl ⟨List.mem_cons_self, e.symm⟩
    · rcases restE_get h with ⟨h1, h2⟩ | ⟨h1, h2⟩
      · exact .inl ⟨List.mem_cons_of_mem _ h1, h2⟩
      · exact .inr ⟨fun z => (List.mem_cons.mp z).elim n h1, h2⟩
theorem restE_own {old new : List Sl} {i : Nat} {vs : List Nat} (h : isOwn (restE old new vs)[i]?) : i ∉ vs ∧ isOwn new[i]? := by
  cases e : (restE old new vs)[i]? with
  | none => rw [e] at h; exact h.elim
  | some x =>
    rw [e] at h
    rcases restE_get e with ⟨h1, h2⟩ | ⟨h1, h2⟩
    · rw [h2] at h
      exfalso
      unfold rsS at h
      split at h <;> exact h
    · rw [h2]
      exact ⟨h1, h⟩
/-- a cell is kept from being frozen -/
def Bs.prot (B : Bs) (p : Addr) : Bs := { B with pr := p :: B.pr }
theorem SlOk.prot {x : Sl} {u : Option V} (h : SlOk Γ B G H x u) (ap : isOwn (some x) → u ≠ some (.ref p)) : SlOk Γ (B.prot p) G H x u := by
  cases x with
  | own d =>
    obtain ⟨a, o, e, n1, n2⟩ := h
    refine ⟨a, o, e, ⟨n1.1, fun z => ?_⟩, n2⟩
    rcases List.mem_cons.mp z with z | z
    · subst z
      exact ap trivial e
    · exact n1.2 z
  | _ => exact h
theorem SlOk.unprot {x : Sl} {u : Option V} (h : SlOk Γ (B.prot p) G H x u) : SlOk Γ B G H x u := by
  cases x with
  | own d =>
    obtain ⟨a, o, e, n1, n2⟩ := h
    exact ⟨a, o, e, ⟨n1.1, fun z => n1.2 (List.mem_cons_of_mem _ z)⟩, n2⟩
  | _ => exact h
theorem SRel.prot (R : SRel Γ B s σ G H) (hg : G p = none) (hp : H p ≠ none) (h0 : B.H0 p = none) (ap : Apart s σ p) : SRel Γ (B.prot p) s σ G H :=
  ⟨R.len, fun i x hx => (R.slot i x hx).prot fun ho => ap i (by rw [hx]; exact ho), R.dist, R.gh, R.h0, R.g0, R.mu, R.drw, fun b m => by
    rcases List.mem_cons.mp m with rfl | m
    · exact ⟨hg, hp, h0⟩
    · exact R.pr b m, R.one⟩
theorem SRel.unprot (R : SRel Γ (B.prot p) s σ G H) : SRel Γ B s σ G H :=
  ⟨R.len, fun i x hx => (R.slot i x hx).unprot, R.dist, R.gh, R.h0, R.g0, R.mu, R.drw, fun b m => R.pr b (List.mem_cons_of_mem _ m), R.one⟩
theorem SRel.apart_prot (R : SRel Γ (B.prot p) s σ G H) : Apart s σ p := fun j hj e => (R.own_at hj e).1.2 List.mem_cons_self
/-- behind a block -/
theorem SRel.rest (R1 : SRel Γ B s1 σ G H) (R : SRel Γ B s (L2.wipe σ vs) G' H') (gg : Ex G G') : SRel Γ B (s.rest s1 vs) σ G' H' where
  len := by
    show (restE s1.env s.env vs).length = σ.length
    rw [restE_len, R.len, wipe_length]
  slot := fun i x hx => by
    rcases restE_get hx with ⟨h1, h2⟩ | ⟨h1, h2⟩
    · subst h2
      cases e : s1.env[i]? with
      | none => trivial
      | some y =>
        have q := R1.slot i y e
        cases y with
        | val d =>
          obtain ⟨u, e2, r⟩ := q
          exact ⟨u, e2, r.mono gg⟩
        | bor d =>
          obtain ⟨u, e2, r⟩ := q
          exact ⟨u, e2, r.mono gg fun _ _ z => z⟩
        | _ => trivial
    · have q := R.slot i x h2
      rw [wipe_out h1] at q
      exact q
  dist := fun i j a hi hj e1 e2 => by
    obtain ⟨n1, h1⟩ := restE_own hi
    obtain ⟨n2, h2⟩ := restE_own hj
    exact R.dist i j a h1 h2 (by rw [wipe_out n1]; exact e1) (by rw [wipe_out n2]; exact e2)
  gh := R.gh
  h0 := R.h0
  g0 := R.g0
  mu := R.mu
  drw := R.drw
  pr := R.pr
  one := fun i j hi hj => by
    have go : ∀ {i : Nat}, isSlf (restE s1.env s.env vs)[i]? → isSlf s.env[i]? := fun {i} h => by
      cases e : (restE s1.env s.env vs)[i]? with
      | none => rw [e] at h; exact h.elim
      | some x =>
        rw [e] at h
        rcases restE_get e with ⟨h1, h2⟩ | ⟨h1, h2⟩
        · rw [h2] at h
          exfalso
          unfold rsS at h
          split at h <;> exact h
        · rw [h2]
          exact h
    exact R.one i j (go hi) (go hj)
theorem apart_rest {s s1 : S} (ap : Apart s (L2.wipe σ vs) p) : Apart (s.rest s1 vs) σ p := fun j hj e => by
  obtain ⟨n, h⟩ := restE_own hj
  exact ap j h (by rw [wipe_out n]; exact e)
end

/-! ### comprehensions -/
def compLoop (vs : List Nat) (b : Bd) (u : M Bool) (f : M D) : List D → List D → S → Option (List D × S)
  | [], acc, s => some (acc, s)
  | d :: r, acc, s => (b d s).bind fun s1 => (u s1).bind fun p => if p.1 then (f p.2).bind fun q => if acc.length < lim then compLoop vs b u f r (acc ++ [q.1]) (q.2.wipe vs) else none else compLoop vs b u f r acc (p.2.wipe vs)
def eComp (it : M (List D)) (vs : List Nat) (b : Bd) (u : M Bool) (f : M D) : M D := fun s => (it s).bind fun p => (compLoop vs b u f p.1 [] (p.2.wipe vs)).map fun q => (.lst q.1, q.2.rest p.2 vs)
def compLoop2 (vs vs1 : List Nat) (b : Bd) (u : M Bool) (it1 : M (List D)) (b1 : Bd) (u1 : M Bool) (f : M D) : List D → List D → S → Option (List D × S)
  | [], acc, s => some (acc, s)
  | d :: r, acc, s => (b d s).bind fun s1 => (u s1).bind fun p => if p.1 then (it1 p.2).bind fun q => (compLoop vs1 b1 u1 f q.1 acc (q.2.wipe vs1)).bind fun t => compLoop2 vs vs1 b u it1 b1 u1 f r t.1 (t.2.wipe vs)
    else compLoop2 vs vs1 b u it1 b1 u1 f r acc (p.2.wipe vs)
def eComp2 (it : M (List D)) (vs vs1 : List Nat) (b : Bd) (u : M Bool) (it1 : M (List D)) (b1 : Bd) (u1 : M Bool) (f : M D) : M D := fun s => (it s).bind fun p => (compLoop2 vs vs1 b u it1 b1 u1 f p.1 [] (p.2.wipe vs)).map fun q => (.lst q.1, q.2.rest p.2 vs)
def bYes : M Bool := fun s => some (true, s)

section
variable {X : Cx} {cls : ClsT} {c : Expr} {u : M Bool}
theorem pts_imp {ifs : List Expr} {t t' : TT} (h : PTs X ifs t) (k : ∀ σ H Q, t' σ H Q → t σ H Q) : PTs X ifs t' := ⟨fun pins s σ H Q I w => h.run pins s σ H Q I (k σ H Q w)⟩
theorem ts_nil : PTs X [] (tT (Γx X cls) bYes) := pts_imp pts_nil fun σ H Q ⟨B, s, G, R, d, s', e1, k⟩ => by
  cases e1
  exact k G H R (Ex.refl G) HH.refl
theorem ts_one (h : PT X c (tT (Γx X cls) u)) : PTs X [c] (tT (Γx X cls) u) := pts_one h
end

section
variable {Γ : Ctx} {B : Bs} {σ : St} {vs ix : List Nat} {b : Bd} {u : M Bool} {f : M D} {items ys : List D} {sE : S} {J : It} {G1 H1 : Hp} {Dl : Addr} {E : Hp → Prop}
/-- the word of a block's loop -/
def LW (Γ : Ctx) (B : Bs) (σ : St) (vs : List Nat) (b : Bd) (u : M Bool) (f : M D) (items ys : List D) (sE : S) (G1 H1 : Hp) (Dl : Addr) (i m : Nat) (H : Hp) : Prop :=
  ∃ G s acc ws, SRel Γ B s (L2.wipe σ vs) G H ∧ H Dl = some (.lst ws) ∧ RepL Γ G acc ws ∧ Ex G1 G ∧ HH (Dl :: B.mu) H1 H ∧ compLoop vs b u f (items.drop i) acc s = some (ys, sE) ∧ m = items.length - i ∧ i ≤ items.length
theorem loop_step (hix : ∀ i ∈ ix, i ∈ vs) (hm : Dl ∉ B.mu) (h0 : B.H0 Dl = none) (hpr : Dl ∈ B.pr) (hit : ItD Γ G1 (zone true B H1) J items)
    (fin : ∀ G H ws, SRel Γ B sE (L2.wipe σ vs) G H → H Dl = some (.lst ws) → RepL Γ G ys ws → Ex G1 G → HH (Dl :: B.mu) H1 H → E H) :
    ∀ i m H, LW Γ B σ vs b u f items ys sE G1 H1 Dl i m H → (J.stop i H ∧ E H) ∨ (J.go i H ∧ ∃ Nx : Hp → Prop, (∀ H', Nx H' → ∃ m', m' < m ∧ LW Γ B σ vs b u f items ys sE G1 H1 Dl (i + 1) m' H') ∧
      ∀ x H', J.yld i H x H' → tG Γ ix b x (L2.wipe σ vs) H' fun σ2 H2 => L2.wipe σ2 vs = L2.wipe σ vs ∧ tT Γ u σ2 H2 fun t H3 =>
        if t = true then tV Γ f σ2 H3 fun y H4 => ∃ acc, H4 Dl = some (.lst acc) ∧ acc.length < sizeLine ∧ Nx (upd H4 Dl (.lst (acc ++ [y]))) else Nx H3) := by
  rintro i m H ⟨G, s, acc, ws, R, hD, ra, gg, hh, hl, rfl, hi⟩
  have zz : Ex (zone true B H1) H := fun a o e => hh a o (fun z => (List.mem_cons.mp z).elim (fun z => (off_some e).1 (List.mem_append_right _ (by rw [z]; exact hpr))) fun z => (off_some e).1 (ex_l z)) (off_some e).2
  have mm : ∀ {a : Addr}, a ∉ Dl :: B.mu → a ∉ B.mu := fun n z => n (List.mem_cons_of_mem _ z)
  have gH : Ex G1 H := fun a o e => R.gh a o (gg a o e)
  by_cases hlt : i < items.length
  · refine .inr ⟨hit.go i H hlt zz gH, fun H' => LW Γ B σ vs b u f items ys sE G1 H1 Dl (i + 1) (items.length - (i + 1)) H', fun H' w => ⟨_, by omega, w⟩, fun x H' y => ?_⟩
    have hd : items[i]? = some items[i] := by simp [hlt]
    obtain ⟨G', g1, g2, g3, fr, rx⟩ := hit.yld i items[i] x H H' G hd zz gg R.gh y
    have R2 := R.grow g1 g2 g3 fr
    rw [List.drop_eq_getElem_cons hlt] at hl
    simp only [compLoop] at hl
    cases h1 : b items[i] s with
    | none => rw [h1] at hl; cases hl
    | some s1 =>
      rw [h1] at hl
      simp only [Option.bind_some] at hl
      cases h2 : u s1 with
      | none => rw [h2] at hl; cases hl
      | some p =>
        obtain ⟨t, s2⟩ := p
        rw [h2] at hl
        simp only [Option.bind_some] at hl
        refine ⟨B, s, G', items[i], s1, R2, rx, h1, fun σ2 R3 kp => ?_⟩
        have ew : L2.wipe σ2 vs = L2.wipe σ vs := by rw [wipe_kp (kp.mono hix), wipe_wipe]
        refine ⟨ew, B, s1, G', R3, t, s2, h2, fun G2 H2 R4 gg2 hh2 => ?_⟩
        have hD2 : H2 Dl = some (.lst ws) := hh2 _ _ hm (g3 _ _ hD)
        have hh02 : HH (Dl :: B.mu) H1 H2 := (hh.trans (HH.of g3)).trans fun a o n e => hh2 a o (mm n) e
        cases t with
        | false =>
          simp only [if_false, Bool.false_eq_true] at hl ⊢
          have R5 := R4.wipe vs
          rw [ew] at R5
          exact ⟨G2, _, acc, ws, R5, hD2, RepL.mono (g1.trans gg2) _ ra, (gg.trans g1).trans gg2, hh02, hl, rfl, hlt⟩
        | true =>
          simp only [if_true] at hl ⊢
          cases h3 : f s2 with
          | none => rw [h3] at hl; cases hl
          | some q =>
            obtain ⟨yd, s4⟩ := q
            rw [h3] at hl
            simp only [Option.bind_some] at hl
            split at hl
            · rename_i hlen
              refine ⟨B, s2, G2, R4, yd, s4, h3, fun v G3 H3 R5 gg3 hh3 r => ⟨ws, hh3 _ _ hm hD2, lim_lt (by rw [← ra.length]; exact hlen), ?_⟩⟩
              have R6 : SRel Γ B s4 σ2 G3 (upd H3 Dl (.lst (ws ++ [v]))) := R5.upd_free hm h0 (R5.pr Dl hpr).1 (fun j hj e => (R5.own_at hj e).1.2 hpr)
              have R7 := R6.wipe vs
              rw [ew] at R7
              refine ⟨G3, _, acc ++ [yd], _, R7, upd_same, (RepL.mono ((g1.trans gg2).trans gg3) _ ra).append (repL_cons r repL_nil), ((gg.trans g1).trans gg2).trans gg3, ?_, hl, rfl, hlt⟩
              intro a o na e
              rw [upd_ne (fun z => na (by rw [z]; exact List.mem_cons_self))]
              exact hh3 a o (mm na) (hh02 a o na e)
            · cases hl
  · have ei : i = items.length := by omega
    subst ei
    rw [List.drop_length] at hl
    cases hl
    exact .inl ⟨hit.stop H zz gH, fin G H ws R hD ra gg hh⟩
end
end DL


set_option Elab.async false
set_option linter.all false
set_option maxRecDepth 100000
set_option maxHeartbeats 1000000
namespace DL
open PySem L2
open Evl (Ex)

section
variable {Γ : Ctx} {it : M (List D)} {vs vs1 ix ix1 : List Nat} {b b1 : Bd} {u u1 : M Bool} {it1 : M (List D)} {f : M D}
theorem eComp_some {s s' : S} {d : D} (e : eComp it vs b u f s = some (d, s')) : ∃ items s1 ys s3, it s = some (items, s1) ∧ compLoop vs b u f items [] (s1.wipe vs) = some (ys, s3) ∧ d = .lst ys ∧ s' = s3.rest s1 vs := by
  unfold eComp at e
  cases h1 : it s with
  | none => rw [h1] at e; cases e
  | some p =>
    rw [h1] at e
    simp only [Option.bind_some] at e
    cases h2 : compLoop vs b u f p.1 [] (p.2.wipe vs) with
    | none => rw [h2] at e; cases e
    | some q =>
      rw [h2] at e
      cases e
      exact ⟨p.1, p.2, q.1, q.2, rfl, h2, rfl, rfl⟩
theorem hh_new {mu : List Addr} {H H' : Hp} {p : Addr} (h : HH (p :: mu) H H') (hp : H p = none) : HH mu H H' := fun a o n e => h a o (fun z => (List.mem_cons.mp z).elim (fun z => by rw [z, hp] at e; cases e) n) e
theorem zone_prot {B : Bs} {H : Hp} {p : Addr} (hp : H p = none) : Ex (zone true B H) (zone true (B.prot p) H) := fun a o e => off_of (fun z => by
  have e2 := (off_some e).2
  rcases List.mem_append.mp z with z | z
  · exact (off_some e).1 (List.mem_append_left _ z)
  · rcases List.mem_cons.mp z with z | z
    · simp only [if_true] at e2
      rw [z, hp] at e2; cases e2
    · exact (off_some e).1 (List.mem_append_right _ z)) (off_some e).2
theorem ItD.zone {G0 Z Z' : Hp} {J : It} {ds : List D} (h : ItD Γ G0 Z J ds) (z : Ex Z Z') : ItD Γ G0 Z' J ds :=
  ⟨fun H z' g => h.stop H (z.trans z') g, fun i H hi z' g => h.go i H hi (z.trans z') g, fun i d x H H' G hd z' g gh y => h.yld i d x H H' G hd (z.trans z') g gh y⟩
/-- the end of a block -/
theorem comp_end {B : Bs} {σ : St} {s1 s3 : S} {G G1 G3 H H1 H3 : Hp} {ys : List D} {ws : List V} {Dl : Addr} {Q : VK} (R1 : SRel Γ B s1 σ G1 H1) (gg : Ex G G1) (hh : HH B.mu H H1) (hD : H1 Dl = none)
    (R : SRel Γ (B.prot Dl) s3 (L2.wipe σ vs) G3 H3) (e : H3 Dl = some (.lst ws)) (r : RepL Γ G3 ys ws) (g3 : Ex G1 G3) (h3 : HH (Dl :: B.mu) H1 H3) (hm : Dl ∉ B.mu)
    (k : ∀ p o G' H', SRel Γ B (s3.rest s1 vs) σ G' H' → Ex G G' → HH B.mu H H' → H p = none → G' p = none → H' p = some o → Cell Γ G' (.lst ys) o → Apart (s3.rest s1 vs) σ p → Q (.ref p) H') : Q (.ref Dl) H3 :=
  k Dl _ G3 H3 (SRel.rest R1 R.unprot g3) (gg.trans g3) (hh.trans (hh_new h3 hD)) (hh.free hm hD) (R.pr Dl List.mem_cons_self).1 e r (apart_rest R.apart_prot)
theorem t_comp (hix : ∀ i ∈ ix, i ∈ vs) : ∀ σ H Q, tF Γ (eComp it vs b u f) σ H Q → tLc (tI Γ true it) (tG Γ ix b) (tT Γ u) (tV Γ f) vs σ H Q := by
  rintro σ H Q ⟨B, s, G, R, d, s', e1, k⟩
  obtain ⟨items, s1, ys, s3, h1, h2, rfl, rfl⟩ := eComp_some e1
  refine ⟨B, s, G, R, items, s1, h1, fun J G1 H1 R1 gg hh hit Dl hD => ?_⟩
  have hm := R1.munone hD
  have h0 := R1.h0none hD
  have hg := R1.gnone hD
  have R2 : SRel Γ B s1 σ G1 (upd H1 Dl (.lst [])) := R1.upd_free hm h0 hg (R1.apart hD)
  have R3 : SRel Γ (B.prot Dl) s1 σ G1 (upd H1 Dl (.lst [])) := R2.prot hg (by rw [upd_same]; simp) h0 (R1.apart hD)
  refine ⟨LW Γ (B.prot Dl) σ vs b u f items ys s3 G1 H1 Dl, ⟨items.length, G1, s1.wipe vs, [], [], R3.wipe vs, upd_same, repL_nil, Ex.refl G1, fun a o n e => ?_, h2, rfl, Nat.zero_le _⟩, ?_⟩
  · rw [upd_ne (fun z => n (by rw [z]; exact List.mem_cons_self))]
    exact e
  · refine loop_step hix hm h0 List.mem_cons_self (hit.zone (zone_prot hD)) fun G3 H3 ws R4 e r g3 h3 => comp_end R1 gg hh hD R4 e r g3 h3 hm k

/-! two clauses -/
theorem eComp2_some {s s' : S} {d : D} (e : eComp2 it vs vs1 b u it1 b1 u1 f s = some (d, s')) : ∃ items s1 ys s3, it s = some (items, s1) ∧ compLoop2 vs vs1 b u it1 b1 u1 f items [] (s1.wipe vs) = some (ys, s3) ∧ d = .lst ys ∧ s' = s3.rest s1 vs := by
  unfold eComp2 at e
  cases h1 : it s with
  | none => rw [h1] at e; cases e
  | some p =>
    rw [h1] at e
    simp only [Option.bind_some] at e
    cases h2 : compLoop2 vs vs1 b u it1 b1 u1 f p.1 [] (p.2.wipe vs) with
    | none => rw [h2] at e; cases e
    | some q =>
      rw [h2] at e
      cases e
      exact ⟨p.1, p.2, q.1, q.2, rfl, h2, rfl, rfl⟩
def LW2 (Γ : Ctx) (B : Bs) (σ : St) (vs vs1 : List Nat) (b : Bd) (u : M Bool) (it1 : M (List D)) (b1 : Bd) (u1 : M Bool) (f : M D) (items ys : List D) (sE : S) (G1 H1 : Hp) (Dl : Addr) (i m : Nat) (H : Hp) : Prop :=
  ∃ G s acc ws, SRel Γ B s (L2.wipe σ vs) G H ∧ H Dl = some (.lst ws) ∧ RepL Γ G acc ws ∧ Ex G1 G ∧ HH (Dl :: B.mu) H1 H ∧ compLoop2 vs vs1 b u it1 b1 u1 f (items.drop i) acc s = some (ys, sE) ∧ m = items.length - i ∧ i ≤ items.length
theorem wipe_sub {σ : St} (h : ∀ i ∈ vs1, i ∈ vs) : L2.wipe (L2.wipe σ vs1) vs = L2.wipe σ vs := wipe_kp ((kp_wipe σ vs1).mono h)
theorem t_comp2 (hix : ∀ i ∈ ix, i ∈ vs) (hix1 : ∀ i ∈ ix1, i ∈ vs1) (hv : ∀ i ∈ vs1, i ∈ vs) : ∀ σ H Q, tF Γ (eComp2 it vs vs1 b u it1 b1 u1 f) σ H Q →
    tLc2 (tI Γ true it) (tG Γ ix b) (tT Γ u) (tI Γ true it1) (tG Γ ix1 b1) (tT Γ u1) (tV Γ f) vs vs1 σ H Q := by
  rintro σ H Q ⟨B, s, G, R, d, s', e1, k⟩
  obtain ⟨items, s1, ys, s3, h1, h2, rfl, rfl⟩ := eComp2_some e1
  refine ⟨B, s, G, R, items, s1, h1, fun J G1 H1 R1 gg hh hit Dl hD => ?_⟩
  have hm := R1.munone hD
  have h0 := R1.h0none hD
  have hg := R1.gnone hD
  have R2 : SRel Γ B s1 σ G1 (upd H1 Dl (.lst [])) := R1.upd_free hm h0 hg (R1.apart hD)
  have R3 : SRel Γ (B.prot Dl) s1 σ G1 (upd H1 Dl (.lst [])) := R2.prot hg (by rw [upd_same]; simp) h0 (R1.apart hD)
  have hit' := hit.zone (zone_prot (B := B) hD)
  refine ⟨LW2 Γ (B.prot Dl) σ vs vs1 b u it1 b1 u1 f items ys s3 G1 H1 Dl, ⟨items.length, G1, s1.wipe vs, [], [], R3.wipe vs, upd_same, repL_nil, Ex.refl G1, fun a o n e => ?_, h2, rfl, Nat.zero_le _⟩, ?_⟩
  · rw [upd_ne (fun z => n (by rw [z]; exact List.mem_cons_self))]
    exact e
  · rintro i m H2 ⟨G2, sc, acc, ws, R4, e4, ra, g4, h4, hl, rfl, hi⟩
    have mm : ∀ {a : Addr}, a ∉ Dl :: (B.prot Dl).mu → a ∉ (B.prot Dl).mu := fun n z => n (List.mem_cons_of_mem _ z)
    have zz : Ex (zone true (B.prot Dl) H1) H2 := fun a o e => h4 a o (fun z => (List.mem_cons.mp z).elim (fun z => (off_some e).1 (List.mem_append_right _ (by rw [z]; exact List.mem_cons_self))) fun z => (off_some e).1 (ex_l z)) (off_some e).2
    have gH : Ex G1 H2 := fun a o e => R4.gh a o (g4 a o e)
    by_cases hlt : i < items.length
    · refine .inr ⟨hit'.go i H2 hlt zz gH, fun H' => LW2 Γ (B.prot Dl) σ vs vs1 b u it1 b1 u1 f items ys s3 G1 H1 Dl (i + 1) (items.length - (i + 1)) H', fun H' w => ⟨_, by omega, w⟩, fun x H' y => ?_⟩
      have hd : items[i]? = some items[i] := by simp [hlt]
      obtain ⟨G', q1, q2, q3, fr, rx⟩ := hit'.yld i items[i] x H2 H' G2 hd zz g4 R4.gh y
      have R5 := R4.grow q1 q2 q3 fr
      rw [List.drop_eq_getElem_cons hlt] at hl
      simp only [compLoop2] at hl
      cases w1 : b items[i] sc with
      | none => rw [w1] at hl; cases hl
      | some sb =>
        rw [w1] at hl
        simp only [Option.bind_some] at hl
        cases w2 : u sb with
        | none => rw [w2] at hl; cases hl
        | some p =>
          obtain ⟨t, su⟩ := p
          rw [w2] at hl
          simp only [Option.bind_some] at hl
          refine ⟨B.prot Dl, sc, G', items[i], sb, R5, rx, w1, fun σ2 R6 kp => ?_⟩
          have ew : L2.wipe σ2 vs = L2.wipe σ vs := by rw [wipe_kp (kp.mono hix), wipe_wipe]
          refine ⟨ew, B.prot Dl, sb, G', R6, t, su, w2, fun G3 H3 R7 gg3 hh3 => ?_⟩
          have hD3 : H3 Dl = some (.lst ws) := hh3 _ _ hm (q3 _ _ e4)
          have h13 : HH (Dl :: (B.prot Dl).mu) H1 H3 := (h4.trans (HH.of q3)).trans fun a o n e => hh3 a o (mm n) e
          cases t with
          | false =>
            simp only [if_false, Bool.false_eq_true] at hl ⊢
            have R8 := R7.wipe vs
            rw [ew] at R8
            exact ⟨G3, _, acc, ws, R8, hD3, RepL.mono (q1.trans gg3) _ ra, (g4.trans q1).trans gg3, h13, hl, rfl, hlt⟩
          | true =>
            simp only [if_true] at hl ⊢
            cases w3 : it1 su with
            | none => rw [w3] at hl; cases hl
            | some q =>
              obtain ⟨items1, si⟩ := q
              rw [w3] at hl
              simp only [Option.bind_some] at hl
              cases w4 : compLoop vs1 b1 u1 f items1 acc (si.wipe vs1) with
              | none => rw [w4] at hl; cases hl
              | some z =>
                obtain ⟨ys1, sz⟩ := z
                rw [w4] at hl
                simp only [Option.bind_some] at hl
                refine ⟨B.prot Dl, su, G3, R7, items1, si, w3, fun J1 G4 H4 R8 gg4 hh4 hit1 => ?_⟩
                have hD4 : H4 Dl = some (.lst ws) := hh4 _ _ hm hD3
                refine ⟨LW Γ (B.prot Dl) σ2 vs1 b1 u1 f items1 ys1 sz G4 H4 Dl, ⟨items1.length, G4, _, acc, ws, R8.wipe vs1, hD4, RepL.mono ((q1.trans gg3).trans gg4) _ ra, Ex.refl _, HH.refl, w4, rfl, Nat.zero_le _⟩, ?_⟩
                refine loop_step hix1 hm h0 List.mem_cons_self hit1 fun G5 H5 ws5 R9 e5 r5 g5 h5 => ?_
                have R10 := R9.wipe vs
                rw [wipe_sub hv, ew] at R10
                exact ⟨G5, _, ys1, ws5, R10, e5, r5, (((g4.trans q1).trans gg3).trans gg4).trans g5, (h13.trans fun a o n e => hh4 a o (mm n) e).trans h5, hl, rfl, hlt⟩
    · have ei : i = items.length := by omega
      subst ei
      rw [List.drop_length] at hl
      cases hl
      exact .inl ⟨hit'.stop H2 zz gH, comp_end R1 gg hh hD R4 e4 ra g4 h4 hm k⟩
end

section
variable {X : Cx} {cls : ClsT} {elt tg iter tg1 iter1 : Expr} {ifs ifs1 : List Expr} {scope : Scope} {own : List (Str × Nat)} {pos : Pos} {it it1 : M (List D)} {vs1 ix ix1 : List Nat} {b b1 : Bd} {u u1 : M Bool} {f : M D}
theorem f_comp (hc : X.calm = true) (hN : X.N.Nodup) (hi : PI X tg iter (tI (Γx X cls) true it)) (ok : BlkOk X.N X.env.scope scope own)
    (hg : ∀ (s : Shared) (H : Hp) (C : Addr) (cl : List (Str × Addr)) (fp : List Addr), PG (X.blk s H scope (compEnvC scope cl C X.env) fp) tg (tG (Γx X cls) ix b)) (ht : ∀ (s : Shared) (H : Hp) (C : Addr) (cl : List (Str × Addr)) (fp : List Addr), PTs (X.blk s H scope (compEnvC scope cl C X.env) fp) ifs (tT (Γx X cls) u))
    (he : ∀ (s : Shared) (H : Hp) (C : Addr) (cl : List (Str × Addr)) (fp : List Addr), PE (X.blk s H scope (compEnvC scope cl C X.env) fp) elt (tV (Γx X cls) f)) (hix : ∀ i ∈ ix, i ∈ own.map (·.2) := by decide) (hs : ∀ x, foldedSetIterable iter X.env x = pure x := by intro _; rfl) :
    PE X (.ListComp elt [⟨tg, iter, ifs, 0⟩] scope pos) (tF (Γx X cls) (eComp it (own.map (·.2)) b u f)) := pe_imp (pe_lc hc hN hi ok hg ht he hs) (t_comp hix)
theorem f_comp2 (hc : X.calm = true) (hN : X.N.Nodup) (hi : PI X tg iter (tI (Γx X cls) true it)) (ok : BlkOk X.N X.env.scope scope own) (hv : ∀ i ∈ vs1, i ∈ own.map (·.2))
    (hg : ∀ (s : Shared) (H : Hp) (C : Addr) (cl : List (Str × Addr)) (fp : List Addr), PG (X.blk s H scope (compEnvC scope cl C X.env) fp) tg (tG (Γx X cls) ix b)) (ht : ∀ (s : Shared) (H : Hp) (C : Addr) (cl : List (Str × Addr)) (fp : List Addr), PTs (X.blk s H scope (compEnvC scope cl C X.env) fp) ifs (tT (Γx X cls) u))
    (hi1 : ∀ (s : Shared) (H : Hp) (C : Addr) (cl : List (Str × Addr)) (fp : List Addr), PI (X.blk s H scope (compEnvC scope cl C X.env) fp) tg1 iter1 (tI (Γx X cls) true it1))
    (hg1 : ∀ (s : Shared) (H : Hp) (C : Addr) (cl : List (Str × Addr)) (fp : List Addr), PG (X.blk s H scope (compEnvC scope cl C X.env) fp) tg1 (tG (Γx X cls) ix1 b1)) (ht1 : ∀ (s : Shared) (H : Hp) (C : Addr) (cl : List (Str × Addr)) (fp : List Addr), PTs (X.blk s H scope (compEnvC scope cl C X.env) fp) ifs1 (tT (Γx X cls) u1))
    (he : ∀ (s : Shared) (H : Hp) (C : Addr) (cl : List (Str × Addr)) (fp : List Addr), PE (X.blk s H scope (compEnvC scope cl C X.env) fp) elt (tV (Γx X cls) f)) (hix : ∀ i ∈ ix, i ∈ own.map (·.2) := by decide) (hix1 : ∀ i ∈ ix1, i ∈ vs1 := by decide)
    (hs : ∀ x, foldedSetIterable iter X.env x = pure x := by intro _; rfl) (hs1 : ∀ env x, foldedSetIterable iter1 env x = pure x := by intro _ _; rfl) :
    PE X (.ListComp elt [⟨tg, iter, ifs, 0⟩, ⟨tg1, iter1, ifs1, 0⟩] scope pos) (tF (Γx X cls) (eComp2 it (own.map (·.2)) vs1 b u it1 b1 u1 f)) := pe_imp (pe_lc2 hc hN hi ok hv hg ht hi1 hg1 ht1 he hs hs1) (t_comp2 hix hix1 hv)
end
end DL


set_option Elab.async false
set_option linter.all false
set_option maxRecDepth 100000
set_option maxHeartbeats 1000000
namespace DL
open PySem L2
open Evl (Ex)

/-! ### statements -/
inductive Out where
  | nx (s : S) | rt (d : D) (s : S) | bk (s : S) | ct (s : S)
abbrev St1 := S → Option Out
def OutK (Γ : Ctx) (B : Bs) (G : Hp) (D : Ends) : Out → Prop
  | .nx s' => ∀ σ' G' H', SRel Γ B s' σ' G' H' → Ex G G' → D.nx σ' H'
  | .bk s' => ∀ σ' G' H', SRel Γ B s' σ' G' H' → Ex G G' → D.bk σ' H'
  | .ct s' => ∀ σ' G' H', SRel Γ B s' σ' G' H' → Ex G G' → D.ct σ' H'
  | .rt d s' => ∀ v σ' G' H', SRel Γ B s' σ' G' H' → Ex G G' → Rep Γ G' d v → D.rt v H'
def tS (Γ : Ctx) (f : St1) : TS := fun D σ H => ∃ B s G, SRel Γ B s σ G H ∧ ∃ o, f s = some o ∧ OutK Γ B G D o
theorem OutK.mono {Γ : Ctx} {B : Bs} {G G' : Hp} {D : Ends} {o : Out} (h : OutK Γ B G D o) (e : Ex G G') : OutK Γ B G' D o := by
  cases o with
  | nx s' => exact fun σ' G2 H' R g => h σ' G2 H' R (e.trans g)
  | bk s' => exact fun σ' G2 H' R g => h σ' G2 H' R (e.trans g)
  | ct s' => exact fun σ' G2 H' R g => h σ' G2 H' R (e.trans g)
  | rt d s' => exact fun v σ' G2 H' R g => h v σ' G2 H' R (e.trans g)

def cNext : St1 := fun s => some (.nx s)
def cSeq (f g : St1) : St1 := fun s => (f s).bind fun o => match o with
  | .nx s' => g s'
  | o => some o
def cIf (c : M Bool) (f g : St1) : St1 := fun s => (c s).bind fun p => if p.1 then f p.2 else g p.2
def cNever : St1 := fun _ => none
def cDrop (f : M D) : St1 := fun s => (f s).map fun p => .nx p.2
def cRet (f : M D) : St1 := fun s => (f s).map fun p => .rt p.1 p.2
def cRetN : St1 := fun s => some (.rt .non s)
def cBrk : St1 := fun s => some (.bk s)
def cCont : St1 := fun s => some (.ct s)
def cSet (i : Nat) (f : M D) : St1 := fun s => (f s).map fun p => .nx (p.2.put i (.val p.1))
def cSetF (i : Nat) (f : M D) : St1 := fun s => (f s).map fun p => .nx (p.2.put i (.own p.1))
def cAsg (b : Bd) (f : M D) : St1 := fun s => (f s).bind fun p => (b p.1 p.2).map .nx
def cAug (i : Nat) (g : D → D → Option D) (f : M D) : St1 := fun s => match s.env[i]? with
  | some (.val d0) => (f s).bind fun p => (g d0 p.1).map fun z => .nx (p.2.put i (.val z))
  | _ => none
def ownL (s : S) (i : Nat) : Option (List D) := match s.env[i]? with
  | some (.own (.lst xs)) => some xs
  | _ => none
theorem ownL_some {s : S} {i : Nat} {xs : List D} (h : ownL s i = some xs) : s.env[i]? = some (.own (.lst xs)) := by
  unfold ownL at h
  split at h
  · rename_i ys e
    cases h
    exact e
  · cases h
theorem SRel.ownL {Γ : Ctx} {B : Bs} {s : S} {σ : St} {G H : Hp} {i : Nat} {xs : List D} (R : SRel Γ B s σ G H) (h : DL.ownL s i = some xs) : ∃ a ws, σ[i]? = some (some (.ref a)) ∧ H a = some (.lst ws) ∧ RepL Γ G xs ws := by
  obtain ⟨a, o, e, n1, n2, n3, ha, c⟩ := R.slot i _ (ownL_some h)
  cases o with
  | lst ws => exact ⟨a, ws, slot_get e, ha, c⟩
  | _ => exact c.elim
theorem SRel.writeL {Γ : Ctx} {B : Bs} {s : S} {σ : St} {G H : Hp} {i : Nat} {xs ys : List D} {a : Addr} {ws : List V} (R : SRel Γ B s σ G H) (h : DL.ownL s i = some xs) (e : σ[i]? = some (some (.ref a))) (c : RepL Γ G ys ws) :
    SRel Γ B (s.put i (.own (.lst ys))) σ G (upd H a (.lst ws)) := R.write (ownL_some h) (by rw [e]; rfl) (show Cell Γ G (.lst ys) (.lst ws) from c)
def cApp (i : Nat) (f : M D) : St1 := fun s => (ownL s i).bind fun _ => (f s).bind fun p => (ownL p.2 i).bind fun xs => if xs.length < lim then some (.nx (p.2.put i (.own (.lst (xs ++ [p.1]))))) else none
/-- xs[j] = e: e first -/
def cSetL (i : Nat) (f : M D) (j : M D) : St1 := fun s => (f s).bind fun p => (ownL p.2 i).bind fun _ => (j p.2).bind fun q => (ownL q.2 i).bind fun xs => match q.1 with
  | .int k => (ixN xs.length k).map fun n => .nx (q.2.put i (.own (.lst (xs.set n p.1))))
  | _ => none
/-- xs[j] op= e, on ints -/
def cAugL (i : Nat) (g : Int → Int → Int) (j f : M D) : St1 := fun s => (ownL s i).bind fun _ => (j s).bind fun p => (ownL p.2 i).bind fun xs => match p.1 with
  | .int k => match atI xs k with
    | some (.int x) => (f p.2).bind fun q => (ownL q.2 i).bind fun ys => match q.1 with
      | .int y => (ixN ys.length k).map fun n => .nx (q.2.put i (.own (.lst (ys.set n (.int (g x y))))))
      | _ => none
    | _ => none
  | _ => none
/-- a loop over what is given -/
def forLoop (b : Bd) (body : St1) : List D → S → Option Out
  | [], s => some (.nx s)
  | d :: r, s => (b d s).bind fun s1 => (body s1).bind fun o => match o with
    | .nx s2 => forLoop b body r s2
    | .ct s2 => forLoop b body r s2
    | .bk s2 => some (.nx s2)
    | .rt d s2 => some (.rt d s2)
def cFor (it : M (List D)) (b : Bd) (body : St1) : St1 := fun s => (it s).bind fun p => forLoop b body p.1 p.2
def whileLoop (c : M Bool) (body : St1) : Nat → S → Option Out
  | 0, _ => none
  | n + 1, s => (c s).bind fun p => if p.1 then (body p.2).bind fun o => match o with
    | .nx s2 => whileLoop c body n s2
    | .ct s2 => whileLoop c body n s2
    | .bk s2 => some (.nx s2)
    | .rt d s2 => some (.rt d s2) else some (.nx p.2)
def cWhile (n : Nat) (c : M Bool) (body : St1) : St1 := fun s => whileLoop c body n s

section
variable {X : Cx} {cls : ClsT} {st : Stmt} {rest as bs : List Stmt} {e c tg it : Expr} {f h : M D} {g g1 : St1} {u : M Bool} {b : Bd} {pos p1 p2 : Pos} {i n : Nat} {x : Str}
theorem ss_nil : PSs X [] (tS (Γx X cls) cNext) := pss_imp pss_nil fun D σ H ⟨B, s, G, R, o, e1, k⟩ => by
  cases e1
  exact k σ G H R (Ex.refl G)
theorem ss_one (h : PS X st (tS (Γx X cls) g)) : PSs X [st] (tS (Γx X cls) g) := pss_one h
theorem ss_cons (h1 : PS X st (tS (Γx X cls) g)) (h2 : PSs X rest (tS (Γx X cls) g1)) : PSs X (st :: rest) (tS (Γx X cls) (cSeq g g1)) := pss_imp (pss_cons h1 h2) fun D σ H ⟨B, s, G, R, o, e1, k⟩ => by
  unfold cSeq at e1
  cases h : g s with
  | none => rw [h] at e1; cases e1
  | some o1 =>
    rw [h] at e1
    simp only [Option.bind_some] at e1
    refine ⟨B, s, G, R, o1, h, ?_⟩
    cases o1 with
    | nx s' => exact fun σ' G' H' R' g' => ⟨B, s', G', R', o, e1, k.mono g'⟩
    | rt d s' => cases e1; exact k
    | bk s' => cases e1; exact k
    | ct s' => cases e1; exact k
theorem s_never : PS X st (tS (Γx X cls) cNever) := ps_imp ps_never fun D σ H ⟨B, s, G, R, o, e1, k⟩ => by cases e1
theorem s_pass : PS X (.Pass pos) (tS (Γx X cls) cNext) := ps_imp ps_pass fun D σ H ⟨B, s, G, R, o, e1, k⟩ => by
  cases e1
  exact k σ G H R (Ex.refl G)
theorem s_break : PS X (.Break pos) (tS (Γx X cls) cBrk) := ps_imp ps_break fun D σ H ⟨B, s, G, R, o, e1, k⟩ => by
  cases e1
  exact k σ G H R (Ex.refl G)
theorem s_cont : PS X (.Continue pos) (tS (Γx X cls) cCont) := ps_imp ps_continue fun D σ H ⟨B, s, G, R, o, e1, k⟩ => by
  cases e1
  exact k σ G H R (Ex.refl G)
theorem map_some {α β : Type} {f : Option α} {g : α → β} {z : β} (e : f.map g = some z) : ∃ p, f = some p ∧ z = g p := by
  cases f with
  | none => cases e
  | some p => cases e; exact ⟨p, rfl, rfl⟩
theorem s_expr (he : PE X e (tV (Γx X cls) f)) (hs : swapsWith e none pos.line X.env = pure false := by rfl) : PS X (.Expr e pos) (tS (Γx X cls) (cDrop f)) := ps_imp (ps_expr he hs) fun D σ H ⟨B, s, G, R, o, e1, k⟩ => by
  obtain ⟨p, h1, rfl⟩ := map_some e1
  exact ⟨B, s, G, R, p.1, p.2, h1, fun v G' H' R' gg hh r => k σ G' H' R' gg⟩
theorem s_ret (he : PE X e (tV (Γx X cls) f)) : PS X (.Return (some e) pos) (tS (Γx X cls) (cRet f)) := ps_imp (ps_ret he) fun D σ H ⟨B, s, G, R, o, e1, k⟩ => by
  obtain ⟨p, h1, rfl⟩ := map_some e1
  exact ⟨B, s, G, R, p.1, p.2, h1, fun v G' H' R' gg hh r => k v σ G' H' R' gg r⟩
theorem s_retN : PS X (.Return none pos) (tS (Γx X cls) cRetN) := ps_imp ps_retN fun D σ H ⟨B, s, G, R, o, e1, k⟩ => by
  cases e1
  exact k _ σ G H R (Ex.refl G) (by simp only [Rep])
theorem s_if (hc : PT X c (tT (Γx X cls) u)) (ha : PSs X as (tS (Γx X cls) g)) (hb : PSs X bs (tS (Γx X cls) g1)) : PS X (.If c as bs pos) (tS (Γx X cls) (cIf u g g1)) := ps_imp (ps_if hc ha hb) fun D σ H ⟨B, s, G, R, o, e1, k⟩ => by
  unfold cIf at e1
  cases h : u s with
  | none => rw [h] at e1; cases e1
  | some p =>
    obtain ⟨t, s1⟩ := p
    rw [h] at e1
    simp only [Option.bind_some] at e1
    refine ⟨B, s, G, R, t, s1, h, fun G' H' R' gg hh => ?_⟩
    cases t with
    | true => exact ⟨B, s1, G', R', o, e1, k.mono gg⟩
    | false => exact ⟨B, s1, G', R', o, e1, k.mono gg⟩
/-! assignments -/
theorem s_set (h : PS X st (tAsg (tV (Γx X cls) f) (gName i))) : PS X st (tS (Γx X cls) (cSet i f)) := ps_imp h fun D σ H ⟨B, s, G, R, o, e1, k⟩ => by
  obtain ⟨p, h1, rfl⟩ := map_some e1
  exact ⟨B, s, G, R, p.1, p.2, h1, fun v G' H' R' gg hh r => k _ G' H' (R'.set_val r) gg⟩
theorem t_setF {Γ : Ctx} : ∀ D σ H, tS Γ (cSetF i f) D σ H → tF Γ f σ H fun x H1 => gName i x σ H1 D.nx := fun D σ H ⟨B, s, G, R, o, e1, k⟩ => by
  obtain ⟨p, h1, rfl⟩ := map_some e1
  exact ⟨B, s, G, R, p.1, p.2, h1, fun q o G' H' R' gg hh n0 n1 hp c ap => k _ G' H' (R'.set_own ⟨R.munone n0, R.prnone n0⟩ (R.h0none n0) n1 hp c ap) gg⟩
theorem s_setF (h : PS X st (tAsg (tF (Γx X cls) f) (gName i))) : PS X st (tS (Γx X cls) (cSetF i f)) := ps_imp h (t_setF)
theorem s_asg {ix : List Nat} (he : PE X e (tV (Γx X cls) f)) (hg : PG X tg (tG (Γx X cls) ix b)) (hs : swapsWithSole [tg] e pos.line X.env = pure false := by rfl) (hw : swappedStores [tg] e X.env = pure none := by rfl) (h1 : (assignEach [tg] X.env).map (·.2) = [assign tg X.env] := by rfl) :
    PS X (.Assign [tg] e pos) (tS (Γx X cls) (cAsg b f)) := ps_imp (ps_asg he hg hs hw h1) fun D σ H ⟨B, s, G, R, o, e1, k⟩ => by
  unfold cAsg at e1
  cases h : f s with
  | none => rw [h] at e1; cases e1
  | some p =>
    rw [h] at e1
    simp only [Option.bind_some] at e1
    obtain ⟨s', h2, rfl⟩ := map_some e1
    exact ⟨B, s, G, R, p.1, p.2, h, fun v G' H' R' gg hh r => ⟨B, p.2, G', p.1, s', R', r, h2, fun σ' R2 _ => k σ' G' H' R2 gg⟩⟩
/-- a, b = f(..) with the swap of two names of another form (ps_set's own premises are its caller's) -/
theorem s_aug {ti : TIp} {gf : D → D → Option D} (hg : OpD (Γx X cls) (fun x y H Q => ti x y H Q) gf) (h : PS X st (tAug i (tB (Γx X cls) true f) ti)) : PS X st (tS (Γx X cls) (cAug i gf f)) := ps_imp h fun D σ H ⟨B, s, G, R, o, e1, k⟩ => by
  unfold cAug at e1
  split at e1
  · rename_i d0 hd
    cases h1 : f s with
    | none => rw [h1] at e1; cases e1
    | some p =>
      rw [h1] at e1
      simp only [Option.bind_some] at e1
      obtain ⟨z, h2, rfl⟩ := map_some e1
      obtain ⟨v0, e2, r0⟩ := R.slot i _ hd
      refine ⟨v0, slot_get e2, B, s, G, R, p.1, p.2, h1, fun v G' H' R' gg hh r => hg G' (zone true B H') H' v0 v d0 p.1 z _ R'.gh (zone_ex R') (.inl (r0.mono gg)) r h2 fun w G2 H2 gg2 gh2 hh2 fr rw => ?_⟩
      exact k _ G2 H2 ((R'.grow gg2 gh2 hh2 fr).set_val rw) (gg.trans gg2)
  · cases e1
/-! own lists changed -/
theorem s_app (hs : PS X st (tDrop (tBM X.K "list" rAppend (tVar i) (tCons (tV (Γx X cls) f) tNil)))) : PS X st (tS (Γx X cls) (cApp i f)) := ps_imp hs fun D σ H ⟨B, s, G, R, o, e1, k⟩ => by
  unfold cApp at e1
  cases h0 : ownL s i with
  | none => rw [h0] at e1; cases e1
  | some ys =>
    rw [h0] at e1
    simp only [Option.bind_some] at e1
    cases h1 : f s with
    | none => rw [h1] at e1; cases e1
    | some p =>
      rw [h1] at e1
      simp only [Option.bind_some] at e1
      cases h2 : ownL p.2 i with
      | none => rw [h2] at e1; cases e1
      | some xs =>
        rw [h2] at e1
        simp only [Option.bind_some] at e1
        split at e1
        · rename_i hl
          cases e1
          obtain ⟨a, ws, e2, hw, c⟩ := R.ownL h0
          refine ⟨_, e2, .inl ⟨rfl, ws, SqL.of hw⟩, B, s, G, R, p.1, p.2, h1, fun v G' H' R' gg hh r => ?_⟩
          obtain ⟨a', ws', e3, hw', c'⟩ := R'.ownL h2
          rw [e2] at e3
          cases e3
          exact ⟨a, ws', v, rfl, rfl, hw', lim_lt (by rw [← c'.length]; exact hl), k σ G' _ (R'.writeL h2 e2 (c'.append (repL_cons r repL_nil))) gg⟩
        · cases e1
theorem s_setL {fj : M D} (hs : PS X st (tAsg (tV (Γx X cls) f) (gSub (tVar i) (tV (Γx X cls) fj) rSetL))) : PS X st (tS (Γx X cls) (cSetL i f fj)) := ps_imp hs fun D σ H ⟨B, s, G, R, o, e1, k⟩ => by
  unfold cSetL at e1
  cases h1 : f s with
  | none => rw [h1] at e1; cases e1
  | some p =>
    obtain ⟨d1, s1⟩ := p
    rw [h1] at e1
    simp only [Option.bind_some] at e1
    cases h0 : ownL s1 i with
    | none => rw [h0] at e1; cases e1
    | some ys =>
      rw [h0] at e1
      simp only [Option.bind_some] at e1
      cases h2 : fj s1 with
      | none => rw [h2] at e1; cases e1
      | some q =>
        obtain ⟨d2, s2⟩ := q
        rw [h2] at e1
        simp only [Option.bind_some] at e1
        cases h3 : ownL s2 i with
        | none => rw [h3] at e1; cases e1
        | some xs =>
          rw [h3] at e1
          simp only [Option.bind_some] at e1
          cases d2 with
          | int kk =>
            simp only at e1
            obtain ⟨nn, h4, rfl⟩ := map_some e1
            refine ⟨B, s, G, R, d1, s1, h1, fun v G1 H1 R1 gg1 hh1 r1 => ?_⟩
            obtain ⟨a, ws0, e2, _, _⟩ := R1.ownL h0
            refine ⟨_, e2, B, s1, G1, R1, _, s2, h2, fun w G2 H2 R2 gg2 hh2 r2 => ?_⟩
            simp only [Rep] at r2
            subst r2
            obtain ⟨a', ws, e3, hw, rl⟩ := R2.ownL h3
            rw [e2] at e3
            cases e3
            exact ⟨a, ws, kk, nn, rfl, rfl, hw, by rw [← rl.length]; exact h4, k σ G2 _ (R2.writeL h3 e2 (rl.set (r1.mono gg2))) (gg1.trans gg2)⟩
          | _ => cases e1
/-- o[i] of a list, by values -/
theorem get_list : PGet X (rIxL X.K) := by
  intro pins s σ H x y v u Q I rx ry h
  obtain ⟨p, xs, i, z, rfl, rfl, hq, he, q⟩ := h
  cases rx
  obtain ⟨t, rfl⟩ := ry
  obtain ⟨its, r, pl, hz⟩ := I.list hq
  obtain ⟨j, h1, h2, h3, h4, h5⟩ := atI_get he
  obtain ⟨w, ew, rw'⟩ := r.get h2
  have hl := r.length
  have hn := line63
  have fin : EP X pins σ Q w s := ⟨z, H, I, rw', q⟩
  by_cases h0 : 0 ≤ i
  · have hj : i.toNat = j := by
      rw [seqIndex_of h0 h5] at h1
      exact Option.some.inj h1
    exact wpAny_getItem_list pl.isList h0 (by omega) (by rw [hj]; simpa using ew) fin
  · have hj : (i + (its.toArray.size : Int)).toNat = j := by
      rw [seqIndex_neg (by omega) h4] at h1
      rw [List.size_toArray, ← hl]
      exact Option.some.inj h1
    exact wpAny_getItem_list_neg pl.isList (by omega) (by rw [List.size_toArray] <;> omega) (by omega) (by rw [hj]; simpa using ew) fin
theorem s_augL {fj : M D} {gf : Int → Int → Int} (hs : PS X st (tAugS (tVar i) (tV (Γx X cls) fj) (tV (Γx X cls) f) (rIxL X.K) (ipI gf) rSetL)) : PS X st (tS (Γx X cls) (cAugL i gf fj f)) := ps_imp hs fun D σ H ⟨B, s, G, R, o, e1, k⟩ => by
  unfold cAugL at e1
  cases h0 : ownL s i with
  | none => rw [h0] at e1; cases e1
  | some zs =>
    rw [h0] at e1
    simp only [Option.bind_some] at e1
    cases h1 : fj s with
    | none => rw [h1] at e1; cases e1
    | some p =>
      obtain ⟨d1, s1⟩ := p
      rw [h1] at e1
      simp only [Option.bind_some] at e1
      cases h2 : ownL s1 i with
      | none => rw [h2] at e1; cases e1
      | some xs =>
        rw [h2] at e1
        simp only [Option.bind_some] at e1
        cases d1 with
        | int kk =>
          simp only at e1
          split at e1
          · rename_i x0 hx0
            cases h3 : f s1 with
            | none => rw [h3] at e1; cases e1
            | some q =>
              obtain ⟨d2, s2⟩ := q
              rw [h3] at e1
              simp only [Option.bind_some] at e1
              cases h4 : ownL s2 i with
              | none => rw [h4] at e1; cases e1
              | some ys =>
                rw [h4] at e1
                simp only [Option.bind_some] at e1
                cases d2 with
                | int y0 =>
                  simp only at e1
                  obtain ⟨nn, h5, rfl⟩ := map_some e1
                  obtain ⟨a, ws0, e2, _, _⟩ := R.ownL h0
                  refine ⟨_, e2, B, s, G, R, _, s1, h1, fun v G1 H1 R1 gg1 hh1 r1 => ?_⟩
                  simp only [Rep] at r1
                  subst r1
                  obtain ⟨a', ws, e3, hw, rl⟩ := R1.ownL h2
                  rw [e2] at e3
                  cases e3
                  have hget : atI ws kk = some (.int x0) := by
                    unfold atI at hx0 ⊢
                    rw [← rl.length]
                    cases e5 : ixN xs.length kk with
                    | none => rw [e5] at hx0; cases hx0
                    | some m =>
                      rw [e5] at hx0
                      obtain ⟨w, ew, rw'⟩ := rl.get hx0
                      simp only [Rep] at rw'
                      rw [rw'] at ew
                      exact ew
                  refine ⟨a, ws, kk, .int x0, rfl, rfl, SqL.of hw, hget, B, s1, G1, R1, _, s2, h3, fun w G2 H2 R2 gg2 hh2 r2 => ?_⟩
                  simp only [Rep] at r2
                  subst r2
                  obtain ⟨a', ws2, e6, hw2, rl2⟩ := R2.ownL h4
                  rw [e2] at e6
                  cases e6
                  exact ⟨x0, y0, rfl, rfl, a, ws2, kk, nn, rfl, rfl, hw2, by rw [← rl2.length]; exact h5, k σ G2 _ (R2.writeL h4 e2 (rl2.set (by simp only [Rep]))) (gg1.trans gg2)⟩
                | _ => cases e1
          · cases e1
        | _ => cases e1

/-! ### loops -/
theorem s_for {ix : List Nat} {itm : M (List D)} (hp : PassesOwn (model X.prog X.w) X.A X.env X.xe) (hc : X.calm = true) (hi : PI X tg it (tI (Γx X cls) false itm)) (hg : PG X tg (tG (Γx X cls) ix b)) (hb : PSs X as (tS (Γx X cls) g))
    (hs : ∀ x, foldedSetIterable it X.env x = pure x := by intro _; rfl) : PS X (.For tg it as [] pos) (tS (Γx X cls) (cFor itm b g)) := ps_imp (ps_for hp hc hi hg hb hs) fun D σ H ⟨B, s, G, R, o, e1, k⟩ => by
  unfold cFor at e1
  cases h1 : itm s with
  | none => rw [h1] at e1; cases e1
  | some p =>
    obtain ⟨items, s1⟩ := p
    rw [h1] at e1
    simp only [Option.bind_some] at e1
    refine ⟨B, s, G, R, items, s1, h1, fun J G1 H1 R1 gg hh hit => ?_⟩
    refine ⟨fun i m σ' H' => ∃ G' s', SRel (Γx X cls) B s' σ' G' H' ∧ Ex G1 G' ∧ forLoop b g (items.drop i) s' = some o ∧ m = items.length - i ∧ i ≤ items.length, ⟨_, G1, s1, R1, Ex.refl _, e1, rfl, Nat.zero_le _⟩, ?_⟩
    rintro i m σ' H' ⟨G', s', R', g1', hl, rfl, hi'⟩
    have zz : Ex (zone false B H1) H' := fun a o e => R'.h0 a o (ex_n (off_some e).1) (off_some e).2
    have gH : Ex G1 H' := fun a o e => R'.gh a o (g1' a o e)
    by_cases hlt : i < items.length
    · refine .inr ⟨hit.go i H' hlt zz gH, fun σ2 H2 => ∃ G' s', SRel (Γx X cls) B s' σ2 G' H2 ∧ Ex G1 G' ∧ forLoop b g (items.drop (i + 1)) s' = some o, fun σ2 H2 ⟨G2, s2, R2, g2, l2⟩ => ⟨items.length - (i + 1), by omega, G2, s2, R2, g2, l2, rfl, hlt⟩, fun x H2 y => ?_⟩
      have hd : items[i]? = some items[i] := by simp [hlt]
      obtain ⟨G2, q1, q2, q3, fr, rx⟩ := hit.yld i items[i] x H' H2 G' hd zz g1' R'.gh y
      have R2 := R'.grow q1 q2 q3 fr
      rw [List.drop_eq_getElem_cons hlt] at hl
      simp only [forLoop] at hl
      cases w1 : b items[i] s' with
      | none => rw [w1] at hl; cases hl
      | some s2 =>
        rw [w1] at hl
        simp only [Option.bind_some] at hl
        cases w2 : g s2 with
        | none => rw [w2] at hl; cases hl
        | some o2 =>
          rw [w2] at hl
          simp only [Option.bind_some] at hl
          refine ⟨B, s', G2, items[i], s2, R2, rx, w1, fun σ3 R3 _ => ⟨B, s2, G2, R3, o2, w2, ?_⟩⟩
          cases o2 with
          | nx s3 => exact fun σ4 G4 H4 R4 g4 => ⟨G4, s3, R4, (g1'.trans q1).trans g4, hl⟩
          | ct s3 => exact fun σ4 G4 H4 R4 g4 => ⟨G4, s3, R4, (g1'.trans q1).trans g4, hl⟩
          | bk s3 =>
            cases hl
            exact fun σ4 G4 H4 R4 g4 => k σ4 G4 H4 R4 (((gg.trans g1').trans q1).trans g4)
          | rt d s3 =>
            cases hl
            exact fun v σ4 G4 H4 R4 g4 r => k v σ4 G4 H4 R4 (((gg.trans g1').trans q1).trans g4) r
    · have ei : i = items.length := by omega
      subst ei
      rw [List.drop_length] at hl
      cases hl
      exact .inl ⟨hit.stop H' zz gH, k σ' G' H' R' (gg.trans g1')⟩
theorem s_while (hp : PassesOwn (model X.prog X.w) X.A X.env X.xe) (hc : PT X c (tT (Γx X cls) u)) (hb : PSs X as (tS (Γx X cls) g)) : PS X (.While c as [] pos) (tS (Γx X cls) (cWhile n u g)) := ps_imp (ps_while hp hc hb) fun D σ H ⟨B, s, G, R, o, e1, k⟩ => by
  refine ⟨fun m σ' H' => ∃ G' s', SRel (Γx X cls) B s' σ' G' H' ∧ Ex G G' ∧ whileLoop u g m s' = some o, ⟨n, G, s, R, Ex.refl _, e1⟩, ?_⟩
  rintro m σ' H' ⟨G', s', R', g', hl⟩
  cases m with
  | zero => cases hl
  | succ m =>
    simp only [whileLoop] at hl
    cases w1 : u s' with
    | none => rw [w1] at hl; cases hl
    | some p =>
      obtain ⟨t, s1⟩ := p
      rw [w1] at hl
      simp only [Option.bind_some] at hl
      refine ⟨B, s', G', R', t, s1, w1, fun G1 H1 R1 gg1 hh1 => ?_⟩
      cases t with
      | false =>
        simp only [if_false, Bool.false_eq_true] at hl ⊢
        cases hl
        exact k σ' G1 H1 R1 (g'.trans gg1)
      | true =>
        simp only [if_true] at hl ⊢
        cases w2 : g s1 with
        | none => rw [w2] at hl; cases hl
        | some o2 =>
          rw [w2] at hl
          simp only [Option.bind_some] at hl
          refine ⟨fun σ2 H2 => ∃ G2 s2, SRel (Γx X cls) B s2 σ2 G2 H2 ∧ Ex G G2 ∧ whileLoop u g m s2 = some o, fun σ2 H2 w => ⟨m, Nat.lt_succ_self m, w⟩, B, s1, G1, R1, o2, w2, ?_⟩
          cases o2 with
          | nx s3 => exact fun σ4 G4 H4 R4 g4 => ⟨G4, s3, R4, (g'.trans gg1).trans g4, hl⟩
          | ct s3 => exact fun σ4 G4 H4 R4 g4 => ⟨G4, s3, R4, (g'.trans gg1).trans g4, hl⟩
          | bk s3 =>
            cases hl
            exact fun σ4 G4 H4 R4 g4 => k σ4 G4 H4 R4 ((g'.trans gg1).trans g4)
          | rt d s3 =>
            cases hl
            exact fun v σ4 G4 H4 R4 g4 r => k v σ4 G4 H4 R4 ((g'.trans gg1).trans g4) r
end
end DL


set_option Elab.async false
set_option linter.all false
set_option maxRecDepth 100000
set_option maxHeartbeats 1000000
namespace DL
open PySem L2
open Evl (Ex)

/-! ### from a body to a promise -/
def argS (d : D) : Sl := match d with
  | .lst xs => .bor (.lst xs)
  | .dK ks xs => .bor (.dK ks xs)
  | .dT ks xs => .bor (.dT ks xs)
  | d => .val d
def argE (n : Nat) (ds : List D) : List Sl := ds.map argS ++ List.replicate (n - ds.length) .no
def runP (n : Nat) (body : St1) (ds : List D) : Option D := match body ⟨argE n ds, 0, []⟩ with
  | some (.rt d _) => some d
  | some (.nx _) => some .non
  | _ => none
def runE (n : Nat) (body : St1) (ds : List D) (k : Nat) (scr : List Int) : Option (D × Nat) := match body ⟨.drw :: argE n ds, k, scr⟩ with
  | some (.rt d s) => some (d, s.k)
  | some (.nx s) => some (.non, s.k)
  | _ => none
def slfAt (c : Nat) (i : Nat) (s : S) : Option (List D) := match s.env[i]? with
  | some (Sl.slf c' fs) => if c' = c then some fs else none
  | _ => none
theorem slfAt_some {c i : Nat} {s : S} {fs : List D} (h : slfAt c i s = some fs) : s.env[i]? = some (.slf c fs) := by
  unfold slfAt at h
  split at h
  · rename_i c' fs' e
    split at h
    · rename_i hc
      subst hc
      cases h
      exact e
    · cases h
  · cases h
def runI (c n nf : Nat) (body : St1) (ds : List D) : Option (List D) := match body ⟨Sl.slf c [] :: argE n ds, 0, []⟩ with
  | some (Out.nx s) => (slfAt c 0 s).bind fun fs => if fs.length = nf then some fs else none
  | _ => none
section
variable {Γ : Ctx} {G Z H : Hp} {B : Bs}
theorem RepsZ.get : ∀ {ds : List D} {vs : List V} {i : Nat} {d : D}, RepsZ Γ G Z ds vs → ds[i]? = some d → ∃ v, vs[i]? = some v ∧ RepZ Γ G Z d v
  | [], _, _, _, _, e => by simp at e
  | x :: ds, _, 0, d, ⟨v, r, e1, h1, h2⟩, e => by
    simp at e; subst e e1
    exact ⟨v, rfl, h1⟩
  | x :: ds, _, i + 1, d, ⟨v, r, e1, h1, h2⟩, e => by
    subst e1
    simpa using RepsZ.get (i := i) (d := d) h2 (by simpa using e)
theorem RepZ.arg {d : D} {v : V} (h : RepZ Γ G (off B.mu B.H0) d v) : SlOk Γ B G H (argS d) (some v) := by
  cases d with
  | lst xs => exact ⟨v, rfl, h⟩
  | dK ks xs => exact ⟨v, rfl, h⟩
  | dT ks xs => exact ⟨v, rfl, h⟩
  | _ =>
    rcases h with h | ⟨a, o, e1, h1, h2⟩
    · exact ⟨v, rfl, h⟩
    · cases o <;> exact h2.elim
theorem arg_not_own (d : D) : ¬ isOwn (some (argS d)) := by cases d <;> exact fun h => h
theorem arg_not_slf (d : D) : ¬ isSlf (some (argS d)) := by cases d <;> exact fun h => h
theorem argE_len {n : Nat} {ds : List D} (h : ds.length ≤ n) : (argE n ds).length = n := by
  simp [argE]; omega
theorem argE_get {n i : Nat} {ds : List D} {x : Sl} (h : (argE n ds)[i]? = some x) : (∃ d, ds[i]? = some d ∧ x = argS d) ∨ x = .no := by
  unfold argE at h
  by_cases hi : i < ds.length
  · rw [List.getElem?_append_left (by simpa using hi), List.getElem?_map] at h
    cases e : ds[i]? with
    | none => simp [e] at h
    | some d => simp [e] at h; exact .inl ⟨d, rfl, h.symm⟩
  · rw [List.getElem?_append_right (by simpa using Nat.le_of_not_lt hi)] at h
    rw [List.getElem?_replicate] at h
    split at h
    · cases h; exact .inr rfl
    · cases h
theorem start_get {N : List Str} {vs : List V} {i : Nat} {v : V} (h : vs[i]? = some v) : (L2.start N vs)[i]?.join = some v := by
  unfold L2.start
  have hi : i < vs.length := (List.getElem?_eq_some_iff.mp h).1
  rw [List.getElem?_append_left (by simpa using hi), List.getElem?_map, h]
  rfl
theorem start_len {N : List Str} {vs : List V} (h : vs.length ≤ N.length) : (L2.start N vs).length = N.length := by
  simp [L2.start]; omega
theorem argE_own {n i : Nat} {ds : List D} (h : isOwn (argE n ds)[i]?) : False := by
  cases e : (argE n ds)[i]? with
  | none => rw [e] at h; exact h
  | some x =>
    rw [e] at h
    rcases argE_get e with ⟨d, _, rfl⟩ | rfl
    · exact arg_not_own d h
    · exact h
theorem argE_slf {n i : Nat} {ds : List D} (h : isSlf (argE n ds)[i]?) : False := by
  cases e : (argE n ds)[i]? with
  | none => rw [e] at h; exact h
  | some x =>
    rw [e] at h
    rcases argE_get e with ⟨d, _, rfl⟩ | rfl
    · exact arg_not_slf d h
    · exact h
theorem rel_start {N : List Str} {ds : List D} {vs : List V} (gh : Ex G H) (hn : ds.length ≤ N.length) (r : RepsZ Γ G H ds vs) : SRel Γ ⟨H, G, [], none, []⟩ ⟨argE N.length ds, 0, []⟩ (L2.start N vs) G H where
  len := by
    show (argE N.length ds).length = _
    rw [argE_len hn, start_len (by rw [← r.length]; exact hn)]
  slot := fun i x hx => by
    rcases argE_get hx with ⟨d, hd, rfl⟩ | rfl
    · obtain ⟨v, hv, rv⟩ := r.get hd
      rw [start_get hv]
      exact RepZ.arg (by rw [off_nil]; exact rv)
    · trivial
  dist := fun i j a hi => (argE_own hi).elim
  gh := gh
  h0 := fun b o _ e => e
  g0 := fun b _ => rfl
  mu := fun b m => by cases m
  drw := fun a sv e => by cases e
  pr := fun b m => by cases m
  one := fun i j hi => (argE_slf hi).elim
end
section
variable {P : Program} {w : World} {K : PySem.W.Frag} {mg : Str → Option Value} {base : Heap} {cls : ClsT}
variable {x qual m : Str} {st : Stmt} {f C : Addr} {fd : FuncData} {N ps nm : List Str} {k c : Nat} {body : St1}
theorem fn_P (F : C8.Fun K x qual st f fd) (S : FnScope N ps (C8.fnScope st)) (hl : ps.length ≤ N.length)
    (h : ∀ (cdv : Value) (A : Around) (outer : List Env) (s : Shared) (H : Hp) (E : XK), Room k (A.deeper (PyProof.Rows.envOfC qual (C8.fnScope st) s.heap.objs.size f cdv)) →
      PSs (cxOf C8.CX0 P w K mg base N qual (C8.fnScope st) f cdv A outer s H E).nox (C8.fnBody st) (tS ⟨K, cls⟩ body)) : FnOk P w K mg base C8.CX0 (k + 1) f fd ps (spP ⟨K, cls⟩ ps.length (runP N.length body)) := by
  refine C8.fn0 F S (fun vs H Q E hs => ?_) (fun cdv A outer s H vs Q E hr hs => ⟨_, h cdv A outer s H E hr, ?_⟩)
  · obtain ⟨G, ds, d, gh, hn, r, _⟩ := hs
    rw [← r.length, hn]
  · obtain ⟨G, ds, d, gh, hn, r, hf, kk⟩ := hs
    refine ⟨_, _, G, rel_start gh (by rw [hn]; exact hl) r, ?_⟩
    unfold runP at hf
    have fin : ∀ {v : V} {σ' : St} {G' H' : Hp} {s' : DL.S} {d : D}, (∀ v G' H', Ex G G' → Ex G' H' → Ex H H' → (∀ b, H b ≠ none → G' b = G b) → Rep ⟨K, cls⟩ G' d v → Q v H') → SRel ⟨K, cls⟩ ⟨H, G, [], none, []⟩ s' σ' G' H' → Ex G G' → Rep ⟨K, cls⟩ G' d v → Q v H' :=
      fun kk R g r => kk _ _ _ g R.gh (fun b o e => R.h0 b o (by simp) e) (fun b hb => R.g0 b hb) r
    split at hf
    · rename_i d' s' e
      cases hf
      exact ⟨_, e, fun v σ' G' H' R g r => fin kk R g r⟩
    · rename_i s' e
      cases hf
      exact ⟨_, e, fun σ' G' H' R g => fin kk R g (by simp only [Rep])⟩
    · cases hf
theorem cal_P (F : C8.Def K mg x st f fd) (kp : PySem.W.keepIn K (.ref f) = true) (b : Binds K fd ps []) (S : FnScope N ps (C8.fnScope st)) (hl : ps.length ≤ N.length)
    (h : ∀ (cdv : Value) (A : Around) (outer : List Env) (s : Shared) (H : Hp) (E : XK), Room k (A.deeper (PyProof.Rows.envOfC x (C8.fnScope st) s.heap.objs.size f cdv)) →
      PSs (cxOf C8.CX0 P w K mg base N x (C8.fnScope st) f cdv A outer s H E).nox (C8.fnBody st) (tS ⟨K, cls⟩ body)) : C8.Cal P w K mg base (k + 1) x (spP ⟨K, cls⟩ ps.length (runP N.length body)) [] :=
  ⟨f, fd, ps, [], fn_P F.fn S hl h, F.mgf, kp, b, .nil⟩
theorem met_P (cl : Cls K C) (me : Meth K C m f) (F : C8.Fun K m qual st f fd) (b : Binds K fd ps []) (S : FnScope N ps (C8.fnScope st)) (hl : ps.length ≤ N.length)
    (h : ∀ (cdv : Value) (A : Around) (outer : List Env) (s : Shared) (H : Hp) (E : XK), Room k (A.deeper (PyProof.Rows.envOfC qual (C8.fnScope st) s.heap.objs.size f cdv)) →
      PSs (cxOf C8.CX0 P w K mg base N qual (C8.fnScope st) f cdv A outer s H E).nox (C8.fnBody st) (tS ⟨K, cls⟩ body)) : C8.Met P w K mg base (k + 1) C m (spP ⟨K, cls⟩ ps.length (runP N.length body)) [] :=
  ⟨f, fd, ps, [], cl, me, fn_P F S hl h, b, .nil⟩

/-! a def that draws -/
theorem rel_startE {Γ : Ctx} {G H : Hp} {n0 : Str} {N : List Str} {ds : List D} {vs : List V} {ad : Addr} {sv : V} {k : Nat} {scr : List Int} (gh : Ex G H) (hn : ds.length ≤ N.length) (r : RepsZ Γ G (off [ad] H) ds vs) (ha : H ad = some (.lst [sv, .int k])) (hg : G ad = none) (rv : Rep Γ G (.scr scr) sv) :
    SRel Γ ⟨H, G, [ad], some (ad, sv), []⟩ ⟨.drw :: argE N.length ds, k, scr⟩ (L2.start (n0 :: N) (.ref ad :: vs)) G H where
  len := by
    show (argE N.length ds).length + 1 = _
    rw [argE_len hn, start_len (by simp; rw [← r.length]; exact hn)]; rfl
  slot := fun i x hx => by
    cases i with
    | zero =>
      simp at hx
      subst hx
      exact ⟨ad, sv, rfl, start_get rfl⟩
    | succ i =>
      have hx : (argE N.length ds)[i]? = some x := by simpa using hx
      rcases argE_get hx with ⟨d, hd, rfl⟩ | rfl
      · obtain ⟨v, hv, rv⟩ := r.get hd
        rw [start_get (v := v) (by simpa using hv)]
        exact RepZ.arg rv
      · trivial
  dist := fun i j a hi => by
    cases i with
    | zero => exact False.elim hi
    | succ i => exact (argE_own (i := i) (by simpa using hi)).elim
  gh := gh
  h0 := fun b o _ e => e
  g0 := fun b _ => rfl
  mu := fun b m => by
    simp at m
    subst m
    exact ⟨hg, by show H _ ≠ none; rw [ha]; simp, by rw [ha]; simp⟩
  drw := fun a sv' e => by
    cases e
    exact ⟨by simp, ha, rv⟩
  pr := fun b m => by cases m
  one := fun i j hi => by
    cases i with
    | zero => exact False.elim hi
    | succ i => exact (argE_slf (i := i) (by simpa using hi)).elim
theorem cal_E {n0 : Str} (F : C8.Def K mg x st f fd) (kp : PySem.W.keepIn K (.ref f) = true) (b : Binds K fd (n0 :: ps) []) (S : FnScope (n0 :: N) (n0 :: ps) (C8.fnScope st)) (hl : ps.length ≤ N.length)
    (h : ∀ (cdv : Value) (A : Around) (outer : List Env) (s : Shared) (H : Hp) (E : XK), Room k (A.deeper (PyProof.Rows.envOfC x (C8.fnScope st) s.heap.objs.size f cdv)) →
      PSs (cxOf C8.CX0 P w K mg base (n0 :: N) x (C8.fnScope st) f cdv A outer s H E).nox (C8.fnBody st) (tS ⟨K, cls⟩ body)) : C8.Cal P w K mg base (k + 1) x (spE ⟨K, cls⟩ ps.length (runE N.length body)) [] := by
  refine ⟨f, fd, n0 :: ps, [], C8.fn0 F.fn S (fun vs H Q E hs => ?_) (fun cdv A outer s H vs Q E hr hs => ⟨_, h cdv A outer s H E hr, ?_⟩), F.mgf, kp, b, .nil⟩
  · obtain ⟨ad, vs', G, ds, d, k1, k2, scr, sv, rfl, hn, _, _, _, _, r, _⟩ := hs
    rw [List.length_cons, List.length_cons, ← r.length, hn]
  · obtain ⟨ad, vs', G, ds, d, k1, k2, scr, sv, rfl, hn, ha, hg, rv, gh, r, hf, kk⟩ := hs
    refine ⟨_, _, G, rel_startE gh (by rw [hn]; exact hl) r ha hg rv, ?_⟩
    unfold runE at hf
    have fin : ∀ {v : V} {σ' : St} {G' H' : Hp} {s' : DL.S} {d : D}, (∀ v G' H', Ex G G' → Ex G' H' → HH [ad] H H' → H' ad = some (.lst [sv, .int s'.k]) → (∀ b, H b ≠ none → G' b = G b) → Rep ⟨K, cls⟩ G' d v → Q v H') →
        SRel ⟨K, cls⟩ ⟨H, G, [ad], some (ad, sv), []⟩ s' σ' G' H' → Ex G G' → Rep ⟨K, cls⟩ G' d v → Q v H' :=
      fun kk R g r => kk _ _ _ g R.gh (fun b o n e => R.h0 b o n e) (R.drw ad sv rfl).2.1 (fun b hb => R.g0 b hb) r
    split at hf
    · rename_i d' s' e
      cases hf
      exact ⟨_, e, fun v σ' G' H' R g r => fin kk R g r⟩
    · rename_i s' e
      cases hf
      exact ⟨_, e, fun σ' G' H' R g => fin kk R g (by simp only [Rep])⟩
    · cases hf

/-! __init__ -/
theorem rel_startI {Γ : Ctx} {G H : Hp} {n0 : Str} {N : List Str} {ds : List D} {vs : List V} {p C dx : Addr} (gh : Ex G H) (hn : ds.length ≤ N.length) (r : RepsZ Γ G (off [p] H) ds vs) (ha : H p = some (.ins C dx [])) (hg : G p = none) (hc : Γ.cls c = some (C, nm)) :
    SRel Γ ⟨H, G, [p], none, []⟩ ⟨.slf c [] :: argE N.length ds, 0, []⟩ (L2.start (n0 :: N) (.ref p :: vs)) G H where
  len := by
    show (argE N.length ds).length + 1 = _
    rw [argE_len hn, start_len (by simp; rw [← r.length]; exact hn)]; rfl
  slot := fun i x hx => by
    cases i with
    | zero =>
      simp at hx
      subst hx
      exact ⟨p, C, nm, dx, [], start_get rfl, by simp, rfl, hc, ha, rfl, repL_nil, Nat.zero_le _⟩
    | succ i =>
      have hx : (argE N.length ds)[i]? = some x := by simpa using hx
      rcases argE_get hx with ⟨d, hd, rfl⟩ | rfl
      · obtain ⟨v, hv, rv⟩ := r.get hd
        rw [start_get (v := v) (by simpa using hv)]
        exact RepZ.arg rv
      · trivial
  dist := fun i j a hi => by
    cases i with
    | zero => exact False.elim hi
    | succ i => exact (argE_own (i := i) (by simpa using hi)).elim
  gh := gh
  h0 := fun b o _ e => e
  g0 := fun b _ => rfl
  mu := fun b m => by
    simp at m
    subst m
    exact ⟨hg, by show H _ ≠ none; rw [ha]; simp, by rw [ha]; simp⟩
  drw := fun a sv' e => by cases e
  pr := fun b m => by cases m
  one := fun i j hi hj => by
    cases i with
    | zero => cases j with
      | zero => rfl
      | succ j => exact (argE_slf (i := j) (by simpa using hj)).elim
    | succ i => exact (argE_slf (i := i) (by simpa using hi)).elim
theorem mak_I {n0 : Str} {nf : Nat} (M : Mk K C f) (hm : mg x = some (.ref C)) (hc : cls c = some (C, nm)) (hnf : nm.length = nf) (F : C8.Fun K "__init__" qual st f fd) (b : Binds K fd (n0 :: ps) []) (S : FnScope (n0 :: N) (n0 :: ps) (C8.fnScope st)) (hl : ps.length ≤ N.length)
    (h : ∀ (cdv : Value) (A : Around) (outer : List Env) (s : Shared) (H : Hp) (E : XK), Room k (A.deeper (PyProof.Rows.envOfC qual (C8.fnScope st) s.heap.objs.size f cdv)) →
      PSs (cxOf C8.CX0 P w K mg base (n0 :: N) qual (C8.fnScope st) f cdv A outer s H E).nox (C8.fnBody st) (tS ⟨K, cls⟩ body)) : C8.Mak P w K mg base (k + 1) x C (spI ⟨K, cls⟩ c ps.length (runI c N.length nf body)) [] := by
  refine ⟨f, fd, n0 :: ps, [], M, C8.fn0 F S (fun vs H Q E hs => ?_) (fun cdv A outer s H vs Q E hr hs => ⟨_, h cdv A outer s H E hr, ?_⟩), hm, b, .nil⟩
  · obtain ⟨p, vs', G, ds, fs, C', nm', dx, rfl, hn, _, _, _, _, r, _⟩ := hs
    rw [List.length_cons, List.length_cons, ← r.length, hn]
  · obtain ⟨p, vs', G, ds, fs, C', nm', dx, rfl, hn, hc', ha, hg, gh, r, hf, kk⟩ := hs
    have z : some (C', nm') = some (C, nm) := hc'.symm.trans hc
    injection z with z
    injection z with z1 z2
    subst z1 z2
    refine ⟨_, _, G, rel_startI (c := c) gh (by rw [hn]; exact hl) r ha hg hc, ?_⟩
    unfold runI at hf
    split at hf
    · rename_i s' e
      cases h2 : slfAt c 0 s' with
      | none => rw [h2] at hf; cases hf
      | some fs' =>
        rw [h2] at hf
        simp only [Option.bind_some] at hf
        split at hf
        · rename_i hlen
          cases hf
          refine ⟨_, e, fun σ' G' H' R g => ?_⟩
          obtain ⟨p', C2, nm2, dx', fs2, e3, m1, _, hc2, h2, hn2, hr2, _⟩ := R.slot 0 _ (slfAt_some h2)
          have z : some (C2, nm2) = some (C', nm') := hc2.symm.trans hc
          injection z with z
          injection z with z1 z2
          subst z1 z2
          simp at m1
          subst m1
          refine kk G' H' fs2 dx' g R.gh (fun b o n e => R.h0 b o n e) (fun b hb => R.g0 b hb) h2 ?_ hr2
          rw [hn2, hlen, ← hnf, List.take_length]
        · cases hf
    · cases hf
end

/-! self.f = e -/
def cFld (c i j : Nat) (f : M D) : St1 := fun s => (f s).bind fun p => (slfAt c i p.2).bind fun fs => if fs.length = j then some (.nx (p.2.put i (.slf c (fs ++ [p.1])))) else none
theorem putF_new {f : Str} {v : V} : ∀ {fs : List (Str × V)}, f ∉ fs.map (·.1) → putF f v fs = fs ++ [(f, v)]
  | [], _ => rfl
  | (n, u) :: r, h => by
    have k1 : ¬ f = n := fun e => h (by simp [e])
    have k2 : f ∉ r.map (·.1) := fun e => h (by
      simp only [List.map_cons]
      exact List.mem_cons_of_mem _ e)
    unfold putF
    first
      | rw [if_neg (Ne.symm k1), putF_new k2]; rfl
      | rw [if_neg k1, putF_new k2]; rfl
section
variable {Γ : Ctx} {B : Bs} {s : S} {σ : St} {G H : Hp} {i c : Nat} {fs fs2 : List D}
theorem SRel.writeSlf {p C dx : Addr} {nm : List Str} {fs' : List (Str × V)} (R : SRel Γ B s σ G H) (hi : s.env[i]? = some (.slf c fs)) (e : σ[i]?.join = some (.ref p)) (hm : p ∈ B.mu) (had : B.ad = none) (hc : Γ.cls c = some (C, nm))
    (hn : fs'.map (·.1) = nm.take fs2.length) (hr : RepL Γ G fs2 (fs'.map (·.2))) (hl : fs2.length ≤ nm.length) : SRel Γ B (s.put i (.slf c fs2)) σ G (upd H p (.ins C dx fs')) where
  len := by simp [S.put, R.len]
  slot := fun j x hx => by
    rcases set_get hx with ⟨rfl, rfl, hl'⟩ | ⟨hj, hx⟩
    · exact ⟨p, C, nm, dx, fs', e, hm, had, hc, upd_same, hn, hr, hl⟩
    · have q := R.slot j x hx
      cases x with
      | own d =>
        obtain ⟨a, o, e1, n1, n2, n3, h, c⟩ := q
        refine ⟨a, o, e1, n1, n2, n3, ?_, c⟩
        rw [upd_ne (fun z => n1.1 (by rw [z]; exact hm))]
        exact h
      | slf c' fs1 => exact absurd (R.one j i (by rw [hx]; trivial) (by rw [hi]; trivial)) hj
      | _ => exact q
  dist := fun j k a hj hk e1 e2 => by
    rcases isOwn_set hj with ⟨_, h1, _⟩ | ⟨n1, h1⟩
    · exact h1.elim
    · rcases isOwn_set hk with ⟨_, h2, _⟩ | ⟨n2, h2⟩
      · exact h2.elim
      · exact R.dist j k a h1 h2 e1 e2
  gh := fun b o eb => by
    rw [upd_ne]
    · exact R.gh b o eb
    · rintro rfl
      rw [(R.mu b hm).1] at eb; cases eb
  h0 := fun b o n eb => by
    rw [upd_ne]
    · exact R.h0 b o n eb
    · rintro rfl
      exact n hm
  g0 := R.g0
  mu := fun b m => by
    refine ⟨(R.mu b m).1, (R.mu b m).2.1, ?_⟩
    by_cases z : b = p
    · subst z
      rw [upd_same]; simp
    · rw [upd_ne z]; exact (R.mu b m).2.2
  drw := fun a sv ea => by rw [had] at ea; cases ea
  pr := fun b m => by
    have q := R.pr b m
    refine ⟨q.1, ?_, q.2.2⟩
    by_cases z : b = p
    · subst z
      rw [upd_same]; simp
    · rw [upd_ne z]; exact q.2.1
  one := fun a b ha hb => by
    rcases isSlf_set ha with ⟨h1, _⟩ | ⟨n1, h1⟩
    · rcases isSlf_set hb with ⟨h2, _⟩ | ⟨n2, h2⟩
      · rw [h1, h2]
      · exact absurd (R.one b i h2 (by rw [hi]; trivial)) n2
    · exact absurd (R.one a i h1 (by rw [hi]; trivial)) n1
end
section
variable {X : Cx} {cls : ClsT} {o e : Expr} {f : M D} {i j c : Nat} {C : Addr} {nm : List Str} {x : Str} {pos pos' : Pos}
theorem s_fld (T : ClsOk X.K cls c C nm) (hj : atN nm j x = true) (hnm : nm.length < 1000) (ho : PE X o (tVar i)) (he : PE X e (tV (Γx X cls) f)) (hs : swapsWith e (some (.Attribute o x pos')) pos.line X.env = pure false := by rfl) :
    PS X (.Assign [.Attribute o x pos'] e pos) (tS (Γx X cls) (cFld c i j f)) := ps_imp (ps_fld ho he hs) fun D σ H ⟨B, s, G, R, o, e1, k⟩ => by
  unfold cFld at e1
  cases h1 : f s with
  | none => rw [h1] at e1; cases e1
  | some p =>
    rw [h1] at e1
    simp only [Option.bind_some] at e1
    cases h2 : slfAt c i p.2 with
    | none => rw [h2] at e1; cases e1
    | some fs =>
      rw [h2] at e1
      simp only [Option.bind_some] at e1
      split at e1
      · rename_i hlen
        cases e1
        refine ⟨B, s, G, R, p.1, p.2, h1, fun v G' H' R' gg hh r => ?_⟩
        have hs := slfAt_some h2
        obtain ⟨p', C', nm', dx, fs', e3, m1, had, hc, hp, hn, hr, hl⟩ := R'.slot i _ hs
        have z : some (C', nm') = some (C, nm) := hc.symm.trans T.is
        injection z with z
        injection z with z1 z2
        subst z1 z2
        have hj' := hj
        unfold atN at hj'
        simp only [Bool.and_eq_true, decide_eq_true_eq] at hj'
        have hlj : j < nm'.length := (List.getElem?_eq_some_iff.mp hj'.1).1
        have hnot : x ∉ fs'.map (·.1) := by rw [hn, hlen]; exact hj'.2
        refine ⟨_, slot_get e3, p', C', dx, fs', rfl, hp, T.cl, T.no _ (atN_mem hj), ?_, ?_⟩
        · have q := congrArg List.length hn
          simp at q
          omega
        · rw [putF_new hnot]
          refine k σ G' _ (R'.writeSlf hs e3 m1 had T.is ?_ ?_ ?_) gg
          · rw [List.map_append, hn, hlen, List.length_append, hlen]
            have e4 : nm'[j]? = some x := hj'.1
            show List.take j nm' ++ [x] = List.take (j + 1) nm'
            rw [List.take_succ, e4]
            rfl
          · rw [List.map_append]
            exact hr.append (repL_cons r repL_nil)
          · rw [List.length_append, hlen]
            show j + 1 ≤ nm'.length
            omega
      · cases e1
end
end DL


set_option Elab.async false
set_option linter.all false
set_option maxRecDepth 100000
set_option maxHeartbeats 1000000
namespace DL
open PySem L2
open Evl (Ex)

/-! ### operators on data -/
def d2I (g : Int → Int → Option D) (x y : D) : Option D := match x, y with
  | .int i, .int j => g i j
  | _, _ => none
theorem d2I_some {g : Int → Int → Option D} {x y z : D} (h : d2I g x y = some z) : ∃ i j, x = .int i ∧ y = .int j ∧ g i j = some z := by
  unfold d2I at h
  split at h
  · exact ⟨_, _, rfl, rfl, h⟩
  · cases h
section
variable {Γ : Ctx}
theorem od_I0 {f : Int → Int → Int} : OpD Γ (rI0 fun i j => .int (f i j)) (d2I fun i j => some (.int (f i j))) := fun G Z H x y d e z Q gh zh rx ry hg k => by
  obtain ⟨i, j, rfl, rfl, h⟩ := d2I_some hg
  cases h
  exact ⟨i, j, rx.int, ry.int, k _ G H (Ex.refl G) gh (Ex.refl H) (fun _ _ => rfl) (by simp only [Rep])⟩
theorem od_B0 {f : Int → Int → Bool} : OpD Γ (rI0 fun i j => .bl (f i j)) (d2I fun i j => some (.bl (f i j))) := fun G Z H x y d e z Q gh zh rx ry hg k => by
  obtain ⟨i, j, rfl, rfl, h⟩ := d2I_some hg
  cases h
  exact ⟨i, j, rx.int, ry.int, k _ G H (Ex.refl G) gh (Ex.refl H) (fun _ _ => rfl) (by simp only [Rep])⟩
theorem od_I {C : Int → Int → Prop} [DecidableRel C] {f : Int → Int → Int} : OpD Γ (rI C fun i j => .int (f i j)) (d2I fun i j => if C i j then some (.int (f i j)) else none) := fun G Z H x y d e z Q gh zh rx ry hg k => by
  obtain ⟨i, j, rfl, rfl, h⟩ := d2I_some hg
  split at h
  · rename_i hc
    cases h
    exact ⟨i, j, rx.int, ry.int, hc, k _ G H (Ex.refl G) gh (Ex.refl H) (fun _ _ => rfl) (by simp only [Rep])⟩
  · cases h
def CMulD (i j : Int) : Prop := (-(2 ^ 64) < i ∧ i < 2 ^ 64) ∨ (-(2 ^ 64) < j ∧ j < 2 ^ 64)
instance : DecidableRel CMul := fun i j => inferInstanceAs (Decidable ((-(2 ^ 64) < i ∧ i < 2 ^ 64) ∨ (-(2 ^ 64) < j ∧ j < 2 ^ 64)))
instance : DecidableRel CDivN := fun i j => inferInstanceAs (Decidable (j ≠ 0 ∧ j.natAbs < 1073741824))
instance : DecidableRel CPow := fun i j => inferInstanceAs (Decidable (0 ≤ j ∧ j ≤ 1000000 ∧ i.natAbs < 2 ^ 64))
def gSub : D → D → Option D := d2I fun i j => some (.int (i - j))
def gMul : D → D → Option D := d2I fun i j => if CMul i j then some (.int (i * j)) else none
def gDiv : D → D → Option D := d2I fun i j => if CDivN i j then some (.int (i.fdiv j)) else none
def gMod : D → D → Option D := d2I fun i j => if j ≠ 0 then some (.int (i.fmod j)) else none
def gPow : D → D → Option D := d2I fun i j => if CPow i j then some (.int (i ^ j.toNat)) else none
def gLt : D → D → Option D := d2I fun i j => some (.bl (decide (i < j)))
def gLe : D → D → Option D := d2I fun i j => some (.bl (decide (i ≤ j)))
def gGt : D → D → Option D := d2I fun i j => some (.bl (decide (j < i)))
def gGe : D → D → Option D := d2I fun i j => some (.bl (decide (j ≤ i)))
theorem od_sub : OpD Γ (rI0 fun i j => .int (i - j)) gSub := od_I0
theorem od_mul : OpD Γ (rI CMul fun i j => .int (i * j)) gMul := od_I
theorem od_div : OpD Γ (rI CDivN fun i j => .int (i.fdiv j)) gDiv := od_I
theorem od_mod : OpD Γ (rI (fun _ j => j ≠ 0) fun i j => .int (i.fmod j)) gMod := od_I (C := fun _ j => j ≠ 0)
theorem od_pow : OpD Γ (rI CPow fun i j => .int (i ^ j.toNat)) gPow := od_I
theorem od_lt : OpD Γ (rI0 fun i j => .bl (decide (i < j))) gLt := od_B0
theorem od_le : OpD Γ (rI0 fun i j => .bl (decide (i ≤ j))) gLe := od_B0
theorem od_gt : OpD Γ (rI0 fun i j => .bl (decide (j < i))) gGt := od_B0
theorem od_ge : OpD Γ (rI0 fun i j => .bl (decide (j ≤ i))) gGe := od_B0
/-- + of ints, texts, tuples -/
def gAdd (x y : D) : Option D := match x, y with
  | .int i, .int j => some (.int (i + j))
  | .str a, .str b => if a.length + b.length ≤ lim then some (.str (a ++ b)) else none
  | .tup xs, .tup ys => if xs.length + ys.length ≤ lim then some (.tup (xs ++ ys)) else none
  | _, _ => none
def rAdd (K : PySem.W.Frag) : R2 := fun x y H Q => (rI0 (fun i j => .int (i + j)) x y H Q ∨ ∃ i j, x = .str i ∧ y = .str j ∧ i.length + j.length ≤ sizeLine ∧ Q (.str (i ++ j)) H) ∨ rCatA K x y H Q
theorem op_addA {X : Cx} : OpR X (binaryOp .Add) (rAdd X.K) := (op_add.or op_add_str).or op_catA
theorem gnone_of {G H : Hp} {p : Addr} (gh : Ex G H) (hp : H p = none) : G p = none := by
  cases e : G p with
  | none => rfl
  | some o => rw [gh _ _ e] at hp; cases hp
theorem upd_sub {G H : Hp} {p : Addr} {o : HO} (gh : Ex G H) : Ex (upd G p o) (upd H p o) := fun b u e => by
  by_cases z : b = p
  · subst z
    rw [upd_same] at e ⊢; exact e
  · rw [upd_ne z] at e ⊢
    exact gh b u e
/-- a new frozen object -/
theorem k_new {G H : Hp} {p : Addr} {o : HO} {z : D} {Q : VK} {v : V} (gh : Ex G H) (hp : H p = none) (r : Ex G (upd G p o) → Rep Γ (upd G p o) z v)
    (k : ∀ v G' H', Ex G G' → Ex G' H' → Ex H H' → (∀ b, H b ≠ none → G' b = G b) → Rep Γ G' z v → Q v H') : Q v (upd H p o) :=
  k v (upd G p o) (upd H p o) (Ex.new (gnone_of gh hp)) (upd_sub gh) (Ex.new hp) (fun b hb => by
    rw [upd_ne]
    rintro rfl
    exact hb hp) (r (Ex.new (gnone_of gh hp)))
theorem od_add : OpD Γ (rAdd Γ.K) gAdd := fun G Z H x y d e z Q gh zh rx ry hg k => by
  unfold gAdd at hg
  split at hg
  · cases hg
    exact .inl (.inl ⟨_, _, rx.int, ry.int, k _ G H (Ex.refl G) gh (Ex.refl H) (fun _ _ => rfl) (by simp only [Rep])⟩)
  · split at hg
    · rename_i hl
      cases hg
      exact .inl (.inr ⟨_, _, rx.str, ry.str, lim_le hl, k _ G H (Ex.refl G) gh (Ex.refl H) (fun _ _ => rfl) (by simp only [Rep])⟩)
    · cases hg
  · split at hg
    · rename_i xs ys hl
      cases hg
      obtain ⟨a, vs, rfl, ha, hr⟩ := rx.tup (Ex.refl G)
      obtain ⟨b, ws, rfl, hb, hs⟩ := ry.tup (Ex.refl G)
      refine .inr ⟨a, b, vs, ws, rfl, rfl, SqT.of (gh _ _ ha), SqT.of (gh _ _ hb), lim_le (by rw [← hr.length, ← hs.length]; exact hl), fun e => ?_, fun _ e => ?_, fun _ _ p hp => ?_⟩
      · have e2 : xs = [] := List.length_eq_zero_iff.mp (by rw [hr.length, e]; rfl)
        refine k _ G H (Ex.refl G) gh (Ex.refl H) (fun _ _ => rfl) ?_
        rw [e2, List.nil_append]
        simp only [Rep]
        exact ⟨b, ws, rfl, hb, hs⟩
      · have e2 : ys = [] := List.length_eq_zero_iff.mp (by rw [hs.length, e]; rfl)
        refine k _ G H (Ex.refl G) gh (Ex.refl H) (fun _ _ => rfl) ?_
        rw [e2, List.append_nil]
        simp only [Rep]
        exact ⟨a, vs, rfl, ha, hr⟩
      · refine k_new gh hp (fun g => ?_) k
        simp only [Rep]
        exact ⟨p, _, rfl, upd_same, (RepL.mono g _ hr).append (RepL.mono g _ hs)⟩
    · cases hg
  · cases hg
/-- lists: + and * -/
def gCat (x y : D) : Option D := match x, y with
  | .lst xs, .lst ys => if xs.length + ys.length ≤ lim then some (.lst (xs ++ ys)) else none
  | _, _ => none
theorem of_cat : OpF Γ rCat gCat := fun G Z H x y d e z Q gh zh rx ry hg k => by
  unfold gCat at hg
  split at hg
  · split at hg
    · rename_i xs ys hl
      cases hg
      obtain ⟨a, vs, rfl, ha, hr⟩ := rx.lst gh zh
      obtain ⟨b, ws, rfl, hb, hs⟩ := ry.lst gh zh
      exact ⟨a, b, vs, ws, rfl, rfl, ha, hb, lim_le (by rw [← hr.length, ← hs.length]; exact hl), fun p hp => k p _ hp (hr.append hs)⟩
    · cases hg
  · cases hg
theorem RepL.rep {G : Hp} {ds : List D} {vs : List V} (h : RepL Γ G ds vs) : ∀ n : Nat, RepL Γ G (List.replicate n ds).flatten (List.replicate n vs).flatten
  | 0 => repL_nil
  | n + 1 => by
    simp only [List.replicate_succ, List.flatten_cons]
    exact h.append (RepL.rep h n)
def gRep (x y : D) : Option D := match x, y with
  | .lst xs, .int k => if -1000000 ≤ k ∧ k ≤ 1000000 ∧ xs.length * k.toNat ≤ lim then some (.lst (List.replicate k.toNat xs).flatten) else none
  | _, _ => none
theorem of_rep : OpF Γ rRep gRep := fun G Z H x y d e z Q gh zh rx ry hg k => by
  unfold gRep at hg
  split at hg
  · split at hg
    · rename_i xs kk hl
      cases hg
      obtain ⟨a, vs, rfl, ha, hr⟩ := rx.lst gh zh
      exact ⟨a, kk, vs, rfl, ry.int, ha, by omega, by omega, lim_le (by rw [← hr.length]; exact hl.2.2), fun p hp => k p _ hp (hr.rep _)⟩
    · cases hg
  · cases hg

/-! == of data -/
mutual
def toPy : D → Option PyData
  | .non => some .none
  | .bl b => some (.bool b)
  | .int i => some (.int i)
  | .str x => some (.str x)
  | .lst xs => (toPyL xs).map .list
  | .tup xs => (toPyL xs).map .tuple
  | .scr ns => some (.list (ns.map .int))
  | _ => none
def toPyL : List D → Option (List PyData)
  | [] => some []
  | d :: ds => (toPy d).bind fun p => (toPyL ds).map fun ps => p :: ps
end
theorem dp_ints {K : PySem.W.Frag} {H : Hp} : ∀ ns : List Int, DpAll K H (ns.map V.int) (ns.map PyData.int)
  | [] => .nil
  | n :: ns => .cons (.int n) (dp_ints ns)
mutual
theorem Rep.dp {G H : Hp} (gh : Ex G H) : ∀ (d : D) {p : PyData} {v : V}, Rep Γ G d v → toPy d = some p → Dp Γ.K H v p
  | .non, _, _, h, e => by
    simp only [Rep] at h
    simp only [toPy] at e
    cases e; subst h; exact .non
  | .bl b, _, _, h, e => by
    simp only [Rep] at h
    simp only [toPy] at e
    cases e; subst h; exact .bl b
  | .int b, _, _, h, e => by
    simp only [Rep] at h
    simp only [toPy] at e
    cases e; subst h; exact .int b
  | .str b, _, _, h, e => by
    simp only [Rep] at h
    simp only [toPy] at e
    cases e; subst h; exact .str b
  | .lst xs, _, _, h, e => by
    simp only [Rep] at h
    simp only [toPy] at e
    obtain ⟨ps, e1, rfl⟩ := map_some e
    obtain ⟨a, vs, rfl, h1, h2⟩ := h
    exact .lst (SqL.of (gh _ _ h1)) (RepL.dp gh xs h2 e1)
  | .tup xs, _, _, h, e => by
    simp only [Rep] at h
    simp only [toPy] at e
    obtain ⟨ps, e1, rfl⟩ := map_some e
    obtain ⟨a, vs, rfl, h1, h2⟩ := h
    exact .tup (SqT.of (gh _ _ h1)) (RepL.dp gh xs h2 e1)
  | .dK _ _, _, _, _, e => by simp only [toPy] at e; cases e
  | .dT _ _, _, _, _, e => by simp only [toPy] at e; cases e
  | .obj _ _, _, _, _, e => by simp only [toPy] at e; cases e
  | .scr ns, _, _, h, e => by
    simp only [Rep] at h
    simp only [toPy] at e
    cases e
    obtain ⟨a, rfl, h1⟩ := h
    exact .lst (Evl.ex_l gh h1) (dp_ints ns)
theorem RepL.dp {G H : Hp} (gh : Ex G H) : ∀ (ds : List D) {ps : List PyData} {vs : List V}, RepL Γ G ds vs → toPyL ds = some ps → DpAll Γ.K H vs ps
  | [], _, _, h, e => by
    rw [h.nil_inv]
    simp only [toPyL] at e
    cases e; exact .nil
  | d :: ds, _, _, h, e => by
    obtain ⟨v, r, rfl, h1, h2⟩ := h.cons_inv
    simp only [toPyL] at e
    cases e1 : toPy d with
    | none => rw [e1] at e; cases e
    | some p =>
      rw [e1] at e
      simp only [Option.bind_some] at e
      obtain ⟨ps, e2, rfl⟩ := map_some e
      exact .cons (Rep.dp gh d h1 e1) (RepL.dp gh ds h2 e2)
end
theorem RepZ.dp {G Z H : Hp} {d : D} {p : PyData} {v : V} (gh : Ex G H) (zh : Ex Z H) (h : RepZ Γ G Z d v) (e : toPy d = some p) : Dp Γ.K H v p := by
  cases d with
  | lst xs =>
    obtain ⟨a, vs, rfl, h1, h2⟩ := h.lst gh zh
    simp only [toPy] at e
    obtain ⟨ps, e1, rfl⟩ := map_some e
    exact .lst (SqL.of h1) (RepL.dp gh xs h2 e1)
  | dK _ _ => simp only [toPy] at e; cases e
  | dT _ _ => simp only [toPy] at e; cases e
  | _ =>
    rcases h with h | ⟨a, o, e1, h1, h2⟩
    · exact Rep.dp gh _ h e
    · cases o <;> exact h2.elim
def eqD (x y : D) : Option Bool := (toPy x).bind fun p => (toPy y).bind fun q => if SeqAt.shaped p = true ∧ SeqAt.shaped q = true then some (PyData.eqv p q) else none
def gEq (x y : D) : Option D := (eqD x y).map .bl
def gNe (x y : D) : Option D := (eqD x y).map fun b => .bl (!b)
theorem eqD_some {x y : D} {b : Bool} (h : eqD x y = some b) : ∃ p q, toPy x = some p ∧ toPy y = some q ∧ SeqAt.shaped p = true ∧ SeqAt.shaped q = true ∧ b = PyData.eqv p q := by
  unfold eqD at h
  cases e1 : toPy x with
  | none => rw [e1] at h; cases h
  | some p =>
    cases e2 : toPy y with
    | none => simp [e1, e2] at h
    | some q =>
      simp only [e1, e2, Option.bind_some] at h
      split at h
      · rename_i hs
        cases h
        exact ⟨p, q, rfl, rfl, hs.1, hs.2, rfl⟩
      · cases h
theorem od_eq : OpD Γ (rEqD Γ.K) gEq := fun G Z H x y d e z Q gh zh rx ry hg k => by
  obtain ⟨b, hb, rfl⟩ := map_some hg
  obtain ⟨p, q, h1, h2, h3, h4, rfl⟩ := eqD_some hb
  exact ⟨p, q, rx.dp gh zh h1, ry.dp gh zh h2, h3, h4, k _ G H (Ex.refl G) gh (Ex.refl H) (fun _ _ => rfl) (by simp only [Rep])⟩
theorem od_ne : OpD Γ (rNeD Γ.K) gNe := fun G Z H x y d e z Q gh zh rx ry hg k => by
  obtain ⟨b, hb, rfl⟩ := map_some hg
  obtain ⟨p, q, h1, h2, h3, h4, rfl⟩ := eqD_some hb
  exact ⟨p, q, rx.dp gh zh h1, ry.dp gh zh h2, h3, h4, k _ G H (Ex.refl G) gh (Ex.refl H) (fun _ _ => rfl) (by simp only [Rep])⟩
/-- is None -/
def isNonD : D → Bool
  | .non => true
  | _ => false
theorem RepZ.isNon {G Z : Hp} {d : D} {v : V} (h : RepZ Γ G Z d v) : decide (v = .non) = isNonD d := by
  rcases h with h | ⟨a, o, rfl, h1, h2⟩
  · cases d <;> simp only [Rep] at h
    all_goals first
      | (subst h; rfl)
      | (obtain ⟨a, vs, rfl, _⟩ := h; rfl)
      | (obtain ⟨a, rfl, _⟩ := h; rfl)
      | (obtain ⟨a, _, _, _, _, rfl, _⟩ := h; rfl)
  · cases d <;> first
      | rfl
      | (cases o <;> exact h2.elim)
def gIs (x y : D) : Option D := match y with
  | .non => some (.bl (isNonD x))
  | _ => none
def gIsNot (x y : D) : Option D := match y with
  | .non => some (.bl (!isNonD x))
  | _ => none
theorem od_is : OpD Γ (fun x y H Q => y = .non ∧ Q (.bl (decide (x = .non))) H) gIs := fun G Z H x y d e z Q gh zh rx ry hg k => by
  unfold gIs at hg
  split at hg
  · cases hg
    refine ⟨ry.non, ?_⟩
    rw [rx.isNon]
    exact k _ G H (Ex.refl G) gh (Ex.refl H) (fun _ _ => rfl) (by simp only [Rep])
  · cases hg
theorem od_isNot : OpD Γ (fun x y H Q => y = .non ∧ Q (.bl (!decide (x = .non))) H) gIsNot := fun G Z H x y d e z Q gh zh rx ry hg k => by
  unfold gIsNot at hg
  split at hg
  · cases hg
    refine ⟨ry.non, ?_⟩
    rw [rx.isNon]
    exact k _ G H (Ex.refl G) gh (Ex.refl H) (fun _ _ => rfl) (by simp only [Rep])
  · cases hg

/-! in, of lists and tuples of flat things -/
def flatD : D → Bool
  | .non => true
  | .bl _ => true
  | .int _ => true
  | .str _ => true
  | _ => false
def toV : D → V
  | .bl b => .bl b
  | .int i => .int i
  | .str x => .str x
  | _ => .non
theorem flat_rep {G Z : Hp} {d : D} {v : V} (h : RepZ Γ G Z d v) (f : flatD d = true) : v = toV d := by
  cases d with
  | non => exact h.non
  | bl b => exact h.bl
  | int i => exact h.int
  | str x => exact h.str
  | _ => cases f
theorem flat_repL {G : Hp} : ∀ {ds : List D} {vs : List V}, RepL Γ G ds vs → ds.all flatD = true → vs = ds.map toV
  | [], _, h, _ => h.nil_inv
  | d :: ds, _, h, f => by
    obtain ⟨v, r, rfl, h1, h2⟩ := h.cons_inv
    simp only [List.all_cons, Bool.and_eq_true] at f
    rw [flat_rep (Z := G) (.inl h1) f.1, flat_repL h2 f.2]; rfl
theorem flatV_toV {d : D} (f : flatD d = true) : flatV (toV d) = true := by cases d <;> first | rfl | cases f
theorem all_flatV : ∀ {ds : List D}, ds.all flatD = true → (ds.map toV).all flatV = true
  | [], _ => rfl
  | d :: ds, f => by
    simp only [List.all_cons, Bool.and_eq_true, List.map_cons] at f ⊢
    exact ⟨flatV_toV f.1, all_flatV f.2⟩
def inD (neg : Bool) (x y : D) : Option D := (asSeq y).bind fun ys => if flatD x = true ∧ ys.all flatD = true then some (.bl (if neg then !inV (toV x) (ys.map toV) else inV (toV x) (ys.map toV))) else none
theorem od_in {neg : Bool} : OpD Γ (rIn Γ.K neg) (inD neg) := fun G Z H x y d e z Q gh zh rx ry hg k => by
  unfold inD at hg
  cases e with
  | lst ys =>
    simp only [asSeq, Option.bind_some] at hg
    split at hg
    · rename_i hf
      cases hg
      obtain ⟨a, vs, rfl, ha, hr⟩ := ry.lst gh zh
      have ex := flat_rep rx hf.1
      have ev := flat_repL hr hf.2
      subst ex ev
      exact ⟨a, _, rfl, .inl (SqL.of ha), flatV_toV hf.1, all_flatV hf.2, k _ G H (Ex.refl G) gh (Ex.refl H) (fun _ _ => rfl) (by simp only [Rep])⟩
    · cases hg
  | tup ys =>
    simp only [asSeq, Option.bind_some] at hg
    split at hg
    · rename_i hf
      cases hg
      obtain ⟨a, vs, rfl, ha, hr⟩ := ry.tup gh
      have ex := flat_rep rx hf.1
      have ev := flat_repL hr hf.2
      subst ex ev
      exact ⟨a, _, rfl, .inr (SqT.of ha), flatV_toV hf.1, all_flatV hf.2, k _ G H (Ex.refl G) gh (Ex.refl H) (fun _ _ => rfl) (by simp only [Rep])⟩
    · cases hg
  | _ => cases hg

/-! subscripts -/
def gIx (x y : D) : Option D := match x, y with
  | .lst xs, .int i => atI xs i
  | .tup xs, .int i => atI xs i
  | .scr ns, .int i => (atI ns i).map .int
  | .str z, .int i => if z.length ≤ lim then (atI z.cps.toList i).map fun c => .str ⟨#[c]⟩ else none
  | _, _ => none
theorem atI_rep {G : Hp} {ds : List D} {vs : List V} {i : Int} {d : D} (h : RepL Γ G ds vs) (e : atI ds i = some d) : ∃ v, atI vs i = some v ∧ Rep Γ G d v := by
  unfold atI at e ⊢
  rw [← h.length]
  cases e1 : ixN ds.length i with
  | none => rw [e1] at e; cases e
  | some m =>
    rw [e1] at e
    exact h.get e
theorem atI_map {α β : Type} {f : α → β} {xs : List α} {i : Int} {x : α} (e : atI xs i = some x) : atI (xs.map f) i = some (f x) := by
  unfold atI at e ⊢
  rw [List.length_map]
  cases e1 : ixN xs.length i with
  | none => rw [e1] at e; cases e
  | some m =>
    rw [e1] at e
    simp only [Option.bind_some] at e ⊢
    rw [List.getElem?_map, e]; rfl
theorem od_ix : OpD Γ (rIx Γ.K) gIx := fun G Z H x y d e z Q gh zh rx ry hg k => by
  unfold gIx at hg
  split at hg
  · rename_i xs i
    obtain ⟨a, vs, rfl, ha, hr⟩ := rx.lst gh zh
    obtain ⟨v, hv, rv⟩ := atI_rep hr hg
    exact .inl ⟨a, vs, i, v, rfl, ry.int, SqL.of ha, hv, k _ G H (Ex.refl G) gh (Ex.refl H) (fun _ _ => rfl) rv⟩
  · rename_i xs i
    obtain ⟨a, vs, rfl, ha, hr⟩ := rx.tup gh
    have hr' : RepL Γ G xs vs := by
      obtain ⟨a', vs', e1, ha', hr'⟩ := rx.tup (Ex.refl G)
      cases e1
      have e2 := gh _ _ ha'
      rw [ha] at e2
      cases e2
      exact hr'
    obtain ⟨v, hv, rv⟩ := atI_rep hr' hg
    exact .inr (.inl ⟨a, vs, i, v, rfl, ry.int, SqT.of ha, hv, k _ G H (Ex.refl G) gh (Ex.refl H) (fun _ _ => rfl) rv⟩)
  · rename_i ns i
    obtain ⟨n, hn, rfl⟩ := map_some hg
    obtain ⟨a, rfl, ha⟩ := rx.scr gh
    exact .inl ⟨a, _, i, _, rfl, ry.int, ha, atI_map hn, k _ G H (Ex.refl G) gh (Ex.refl H) (fun _ _ => rfl) (by simp only [Rep])⟩
  · rename_i zz i
    split at hg
    · rename_i hl
      obtain ⟨c, hc, rfl⟩ := map_some hg
      exact .inr (.inr ⟨zz, i, c, rx.str, ry.int, lim_le hl, hc, k _ G H (Ex.refl G) gh (Ex.refl H) (fun _ _ => rfl) (by simp only [Rep])⟩)
    · cases hg
  · cases hg

/-! ### built-ins on data -/
def kS (K : PySem.W.Frag) (r1 r2 : List V → Hp → VK → Prop) : List V → Hp → VK → Prop := fun xs H Q => r1 xs H Q ∨ r2 xs H Q
def gLen : List D → Option D
  | [.lst xs] => some (.int xs.length)
  | [.tup xs] => some (.int xs.length)
  | [.scr ns] => some (.int ns.length)
  | [.str z] => if z.length ≤ lim then some (.int z.length) else none
  | _ => none
def rLen (K : PySem.W.Frag) : List V → Hp → VK → Prop := fun xs H Q => (∃ p ys, xs = [.ref p] ∧ (SqL K H p ys ∨ SqT K H p ys) ∧ Q (.int ys.length) H) ∨ ∃ z, xs = [.str z] ∧ z.length ≤ sizeLine ∧ Q (.int z.length) H
theorem call_lenA {X : Cx} : CallR X (.builtin "len") (rLen X.K) := call_len_seq.or call_len_str
theorem cd_len : CbD Γ (rLen Γ.K) gLen := fun G Z H xs ds z Q gh zh r hg k => by
  unfold gLen at hg
  split at hg
  · cases hg
    obtain ⟨v, rfl, r1⟩ := repsZ1 r
    obtain ⟨a, vs, rfl, ha, hr⟩ := r1.lst gh zh
    refine .inl ⟨a, vs, rfl, .inl (SqL.of ha), ?_⟩
    rw [← hr.length]
    exact k _ G H (Ex.refl G) gh (Ex.refl H) (fun _ _ => rfl) (by simp only [Rep])
  · cases hg
    obtain ⟨v, rfl, r1⟩ := repsZ1 r
    obtain ⟨a, vs, rfl, ha, hr⟩ := r1.tup gh
    refine .inl ⟨a, vs, rfl, .inr (SqT.of ha), ?_⟩
    rw [← hr.length]
    exact k _ G H (Ex.refl G) gh (Ex.refl H) (fun _ _ => rfl) (by simp only [Rep])
  · rename_i ns
    cases hg
    obtain ⟨v, rfl, r1⟩ := repsZ1 r
    obtain ⟨a, rfl, ha⟩ := r1.scr gh
    refine .inl ⟨a, _, rfl, .inl ha, ?_⟩
    rw [List.length_map]
    exact k _ G H (Ex.refl G) gh (Ex.refl H) (fun _ _ => rfl) (by simp only [Rep])
  · split at hg
    · rename_i hl
      cases hg
      obtain ⟨v, rfl, r1⟩ := repsZ1 r
      exact .inr ⟨_, by rw [r1.str], lim_le hl, k _ G H (Ex.refl G) gh (Ex.refl H) (fun _ _ => rfl) (by simp only [Rep])⟩
    · cases hg
  · cases hg
/-- a list of ints, of bools -/
def intsOf : List D → Option (List Int)
  | [] => some []
  | .int i :: r => (intsOf r).map (i :: ·)
  | _ => none
def blsOf : List D → Option (List Bool)
  | [] => some []
  | .bl i :: r => (blsOf r).map (i :: ·)
  | _ => none
theorem intsOf_some : ∀ {ds : List D} {ns : List Int}, intsOf ds = some ns → ds = ns.map .int
  | [], _, h => by cases h; rfl
  | .int i :: r, _, h => by
    simp only [intsOf] at h
    obtain ⟨ns, e, rfl⟩ := map_some h
    rw [intsOf_some e]; rfl
  | .non :: _, _, h => by cases h
  | .bl _ :: _, _, h => by cases h
  | .str _ :: _, _, h => by cases h
  | .lst _ :: _, _, h => by cases h
  | .tup _ :: _, _, h => by cases h
  | .dK _ _ :: _, _, h => by cases h
  | .dT _ _ :: _, _, h => by cases h
  | .obj _ _ :: _, _, h => by cases h
  | .scr _ :: _, _, h => by cases h
theorem blsOf_some : ∀ {ds : List D} {ns : List Bool}, blsOf ds = some ns → ds = ns.map .bl
  | [], _, h => by cases h; rfl
  | .bl i :: r, _, h => by
    simp only [blsOf] at h
    obtain ⟨ns, e, rfl⟩ := map_some h
    rw [blsOf_some e]; rfl
  | .non :: _, _, h => by cases h
  | .int _ :: _, _, h => by cases h
  | .str _ :: _, _, h => by cases h
  | .lst _ :: _, _, h => by cases h
  | .tup _ :: _, _, h => by cases h
  | .dK _ _ :: _, _, h => by cases h
  | .dT _ _ :: _, _, h => by cases h
  | .obj _ _ :: _, _, h => by cases h
  | .scr _ :: _, _, h => by cases h
theorem intsOf_map (ns : List Int) : intsOf (ns.map .int) = some ns := by
  induction ns with
  | nil => rfl
  | cons n r ih => simp [intsOf, ih]
theorem blsOf_map (ns : List Bool) : blsOf (ns.map .bl) = some ns := by
  induction ns with
  | nil => rfl
  | cons n r ih => simp [blsOf, ih]
def gSum : List D → Option D
  | [.lst xs] => (intsOf xs).map fun ns => .int ns.sum
  | _ => none
theorem cd_sum : CbD Γ (rSum Γ.K) gSum := fun G Z H xs ds z Q gh zh r hg k => by
  unfold gSum at hg
  split at hg
  · obtain ⟨ns, e, rfl⟩ := map_some hg
    have e := intsOf_some e
    subst e
    obtain ⟨v, rfl, r1⟩ := repsZ1 r
    obtain ⟨a, vs, rfl, ha, hr⟩ := r1.lst gh zh
    have e := hr.ints
    subst e
    exact ⟨a, ns, rfl, SqL.of ha, k _ G H (Ex.refl G) gh (Ex.refl H) (fun _ _ => rfl) (by simp only [Rep])⟩
  · cases hg
def gAny : List D → Option D
  | [.lst xs] => (blsOf xs).map fun ns => .bl (ns.any id)
  | _ => none
def gAll : List D → Option D
  | [.lst xs] => (blsOf xs).map fun ns => .bl (ns.all id)
  | _ => none
theorem cd_any : CbD Γ (rAny Γ.K) gAny := fun G Z H xs ds z Q gh zh r hg k => by
  unfold gAny at hg
  split at hg
  · obtain ⟨ns, e, rfl⟩ := map_some hg
    have e := blsOf_some e
    subst e
    obtain ⟨v, rfl, r1⟩ := repsZ1 r
    obtain ⟨a, vs, rfl, ha, hr⟩ := r1.lst gh zh
    have e := hr.bls
    subst e
    exact ⟨a, ns, rfl, SqL.of ha, k _ G H (Ex.refl G) gh (Ex.refl H) (fun _ _ => rfl) (by simp only [Rep])⟩
  · cases hg
theorem cd_all : CbD Γ (rAll Γ.K) gAll := fun G Z H xs ds z Q gh zh r hg k => by
  unfold gAll at hg
  split at hg
  · obtain ⟨ns, e, rfl⟩ := map_some hg
    have e := blsOf_some e
    subst e
    obtain ⟨v, rfl, r1⟩ := repsZ1 r
    obtain ⟨a, vs, rfl, ha, hr⟩ := r1.lst gh zh
    have e := hr.bls
    subst e
    exact ⟨a, ns, rfl, SqL.of ha, k _ G H (Ex.refl G) gh (Ex.refl H) (fun _ _ => rfl) (by simp only [Rep])⟩
  · cases hg
/-- greatest, least -/
def maxI : List Int → Option Int
  | [] => none
  | a :: r => some (r.foldl max a)
def minI : List Int → Option Int
  | [] => none
  | a :: r => some (r.foldl min a)
theorem maxI_spec : ∀ {r : List Int} {a m : Int}, m ∈ a :: r → (∀ y ∈ a :: r, y ≤ m) → r.foldl max a = m
  | [], a, m, h, _ => by
    have e : m = a := by simpa using h
    exact e.symm
  | b :: r, a, m, h, k => by
    rw [List.foldl_cons]
    refine maxI_spec (r := r) (a := max a b) ?_ ?_
    · have ha : a ≤ m := k a (by simp)
      have hb : b ≤ m := k b (by simp)
      rcases List.mem_cons.mp h with e | h
      · subst e
        have : max m b = m := by omega
        rw [this]; simp
      · rcases List.mem_cons.mp h with e | h
        · subst e
          have : max a m = m := by omega
          rw [this]; simp
        · exact List.mem_cons_of_mem _ h
    · intro y hy
      rcases List.mem_cons.mp hy with e | hy
      · have ha : a ≤ m := k a (by simp)
        have hb : b ≤ m := k b (by simp)
        omega
      · exact k y (by simp [hy])
theorem minI_spec : ∀ {r : List Int} {a m : Int}, m ∈ a :: r → (∀ y ∈ a :: r, m ≤ y) → r.foldl min a = m
  | [], a, m, h, _ => by
    have e : m = a := by simpa using h
    exact e.symm
  | b :: r, a, m, h, k => by
    rw [List.foldl_cons]
    refine minI_spec (r := r) (a := min a b) ?_ ?_
    · have ha : m ≤ a := k a (by simp)
      have hb : m ≤ b := k b (by simp)
      rcases List.mem_cons.mp h with e | h
      · subst e
        have : min m b = m := by omega
        rw [this]; simp
      · rcases List.mem_cons.mp h with e | h
        · subst e
          have : min a m = m := by omega
          rw [this]; simp
        · exact List.mem_cons_of_mem _ h
    · intro y hy
      rcases List.mem_cons.mp hy with e | hy
      · have ha : m ≤ a := k a (by simp)
        have hb : m ≤ b := k b (by simp)
        omega
      · exact k y (by simp [hy])
def gMax : List D → Option D
  | [.lst xs] => (intsOf xs).bind fun ns => (maxI ns).map .int
  | [.int i, .int j] => some (.int (if j > i then j else i))
  | _ => none
def gMin : List D → Option D
  | [.lst xs] => (intsOf xs).bind fun ns => (minI ns).map .int
  | [.int i, .int j] => some (.int (if j < i then j else i))
  | _ => none
def rMaxA (K : PySem.W.Frag) : List V → Hp → VK → Prop := fun xs H Q => rMax K xs H Q ∨ ∃ i j, xs = [.int i, .int j] ∧ Q (.int (if j > i then j else i)) H
def rMinA (K : PySem.W.Frag) : List V → Hp → VK → Prop := fun xs H Q => rMin K xs H Q ∨ ∃ i j, xs = [.int i, .int j] ∧ Q (.int (if j < i then j else i)) H
theorem call_maxA {X : Cx} (hc : X.calm = true) : CallR X (.builtin "max") (rMaxA X.K) := (cr_max hc).or (call_max2 hc)
theorem call_minA {X : Cx} (hc : X.calm = true) : CallR X (.builtin "min") (rMinA X.K) := (cr_min hc).or (call_min2 hc)
theorem cd_max : CbD Γ (rMaxA Γ.K) gMax := fun G Z H xs ds z Q gh zh r hg k => by
  unfold gMax at hg
  split at hg
  · cases e : intsOf _ with
    | none => rw [e] at hg; cases hg
    | some ns =>
      rw [e] at hg
      simp only [Option.bind_some] at hg
      obtain ⟨m, e2, rfl⟩ := map_some hg
      have e := intsOf_some e
      subst e
      obtain ⟨v, rfl, r1⟩ := repsZ1 r
      obtain ⟨a, vs, rfl, ha, hr⟩ := r1.lst gh zh
      have e := hr.ints
      subst e
      cases ns with
      | nil => cases e2
      | cons n nr =>
        simp only [maxI] at e2
        cases e2
        refine .inl ⟨a, n :: nr, rfl, SqL.of ha, by simp, fun m hm hle => ?_⟩
        have e3 := maxI_spec hm hle
        subst e3
        exact k _ G H (Ex.refl G) gh (Ex.refl H) (fun _ _ => rfl) (by simp only [Rep])
  · cases hg
    obtain ⟨v, w, rfl, r1, r2⟩ := repsZ2 r
    exact .inr ⟨_, _, by rw [r1.int, r2.int], k _ G H (Ex.refl G) gh (Ex.refl H) (fun _ _ => rfl) (by simp only [Rep])⟩
  · cases hg
theorem cd_min : CbD Γ (rMinA Γ.K) gMin := fun G Z H xs ds z Q gh zh r hg k => by
  unfold gMin at hg
  split at hg
  · cases e : intsOf _ with
    | none => rw [e] at hg; cases hg
    | some ns =>
      rw [e] at hg
      simp only [Option.bind_some] at hg
      obtain ⟨m, e2, rfl⟩ := map_some hg
      have e := intsOf_some e
      subst e
      obtain ⟨v, rfl, r1⟩ := repsZ1 r
      obtain ⟨a, vs, rfl, ha, hr⟩ := r1.lst gh zh
      have e := hr.ints
      subst e
      cases ns with
      | nil => cases e2
      | cons n nr =>
        simp only [minI] at e2
        cases e2
        refine .inl ⟨a, n :: nr, rfl, SqL.of ha, by simp, fun m hm hle => ?_⟩
        have e3 := minI_spec hm hle
        subst e3
        exact k _ G H (Ex.refl G) gh (Ex.refl H) (fun _ _ => rfl) (by simp only [Rep])
  · cases hg
    obtain ⟨v, w, rfl, r1, r2⟩ := repsZ2 r
    exact .inr ⟨_, _, by rw [r1.int, r2.int], k _ G H (Ex.refl G) gh (Ex.refl H) (fun _ _ => rfl) (by simp only [Rep])⟩
  · cases hg
/-- sorted(a list of ints) -/
def isort (ns : List Int) : List Int := ns.mergeSort fun a b => decide (a ≤ b)
theorem isort_unique {ns ms : List Int} (h : ms.Perm ns) (s : ms.Pairwise (· ≤ ·)) : ms = isort ns := by
  have h1 : (isort ns).Perm ns := List.mergeSort_perm ns _
  have h2 : (isort ns).Pairwise (· ≤ ·) := by
    have := List.pairwise_mergeSort (le := fun a b : Int => decide (a ≤ b)) (fun a b c h1 h2 => by simp at *; omega) (fun a b => by simp; omega) ns
    exact this.imp (by simp)
  exact List.Perm.eq_of_pairwise (fun a b _ _ h1 h2 => Int.le_antisymm h1 h2) s h2 (h.trans h1.symm)
def gSorted : List D → Option D
  | [.lst xs] => (intsOf xs).map fun ns => .lst ((isort ns).map .int)
  | _ => none
theorem cf_sorted : CbF Γ (rSortedI Γ.K) gSorted := fun G Z H xs ds z Q gh zh r hg k => by
  unfold gSorted at hg
  split at hg
  · obtain ⟨ns, e, rfl⟩ := map_some hg
    have e := intsOf_some e
    subst e
    obtain ⟨v, rfl, r1⟩ := repsZ1 r
    obtain ⟨a, vs, rfl, ha, hr⟩ := r1.lst gh zh
    have e := hr.ints
    subst e
    refine ⟨a, ns, rfl, SqL.of ha, fun ns' p hp hs hn => ?_⟩
    rw [isort_unique hp hs]
    exact k p _ hn (show RepL Γ G _ _ from repL_ints)
  · cases hg
/-- list(..), tuple(..) -/
def gList : List D → Option D
  | [.lst xs] => some (.lst xs)
  | [.tup xs] => some (.lst xs)
  | _ => none
def gTuple : List D → Option D
  | [.lst xs] => some (.tup xs)
  | [.tup xs] => some (.tup xs)
  | _ => none
theorem cf_list : CbF Γ (fun xs H Q => ∃ p ys, xs = [.ref p] ∧ (SqL Γ.K H p ys ∨ SqT Γ.K H p ys) ∧ ∀ l, H l = none → Q (.ref l) (upd H l (.lst ys))) gList := fun G Z H xs ds z Q gh zh r hg k => by
  unfold gList at hg
  split at hg
  · cases hg
    obtain ⟨v, rfl, r1⟩ := repsZ1 r
    obtain ⟨a, vs, rfl, ha, hr⟩ := r1.lst gh zh
    exact ⟨a, vs, rfl, .inl (SqL.of ha), fun p hp => k p _ hp hr⟩
  · cases hg
    obtain ⟨v, rfl, r1⟩ := repsZ1 r
    obtain ⟨a, vs, rfl, ha, hr⟩ := r1.tup gh
    exact ⟨a, vs, rfl, .inr (SqT.of ha), fun p hp => k p _ hp hr⟩
  · cases hg
theorem cd_tuple : CbD Γ (fun xs H Q => ∃ p ys, xs = [.ref p] ∧ ((SqL Γ.K H p ys ∧ ∀ l, H l = none → Q (.ref l) (upd H l (.tup ys))) ∨ (SqT Γ.K H p ys ∧ Q (.ref p) H))) gTuple := fun G Z H xs ds z Q gh zh r hg k => by
  unfold gTuple at hg
  split at hg
  · cases hg
    obtain ⟨v, rfl, r1⟩ := repsZ1 r
    obtain ⟨a, vs, rfl, ha, hr⟩ := r1.lst gh zh
    refine ⟨a, vs, rfl, .inl ⟨SqL.of ha, fun p hp => k_new gh hp (fun g => ?_) k⟩⟩
    simp only [Rep]
    exact ⟨p, _, rfl, upd_same, RepL.mono g _ hr⟩
  · cases hg
    obtain ⟨v, rfl, r1⟩ := repsZ1 r
    obtain ⟨a, vs, rfl, ha, hr⟩ := r1.tup (Ex.refl G)
    refine ⟨a, vs, rfl, .inr ⟨SqT.of (gh _ _ ha), k _ G H (Ex.refl G) gh (Ex.refl H) (fun _ _ => rfl) ?_⟩⟩
    simp only [Rep]
    exact ⟨a, vs, rfl, ha, hr⟩
  · cases hg
/-- int(..), bool(..) of ints and bools -/
def gInt : List D → Option D
  | [.int i] => some (.int i)
  | [.bl b] => some (.int (if b then 1 else 0))
  | _ => none
theorem cd_int : CbD Γ (fun xs H Q => (∃ i, xs = [.int i] ∧ Q (.int i) H) ∨ ∃ k, xs = [.bl k] ∧ Q (.int (if k then 1 else 0)) H) gInt := fun G Z H xs ds z Q gh zh r hg k => by
  unfold gInt at hg
  split at hg
  · cases hg
    obtain ⟨v, rfl, r1⟩ := repsZ1 r
    exact .inl ⟨_, by rw [r1.int], k _ G H (Ex.refl G) gh (Ex.refl H) (fun _ _ => rfl) (by simp only [Rep])⟩
  · cases hg
    obtain ⟨v, rfl, r1⟩ := repsZ1 r
    exact .inr ⟨_, by rw [r1.bl], k _ G H (Ex.refl G) gh (Ex.refl H) (fun _ _ => rfl) (by simp only [Rep])⟩
  · cases hg
end
/-- -x -/
def gNeg : D → Option D
  | .int i => some (.int (-i))
  | _ => none
theorem ud_neg {Γ : Ctx} : UnD Γ (rU fun i => .int (-i)) gNeg := fun G Z H x d z Q gh zh rx hg k => by
  unfold gNeg at hg
  split at hg
  · cases hg
    exact ⟨_, rx.int, k _ G H (Ex.refl G) gh (Ex.refl H) (fun _ _ => rfl) (by simp only [Rep])⟩
  · cases hg
end DL


set_option Elab.async false
set_option linter.all false
set_option maxRecDepth 100000
set_option maxHeartbeats 1000000
namespace PySem
namespace OwnBool
open PySem.W
section
variable {prog : Program} {w : World} {A : Around} {E : Value → Shared → Prop} {s : Shared} {K : Frag} {a C f : Addr} {ox : Obj} {od : Option Obj}
theorem special_def {name : Str} {args : List Value} {Q : Option Value → Shared → Prop} (X : K.In s.heap) (I : InstAt s.heap a ox C od) (hs : findIn K (.ref C) name = some (some (.ref f))) (hf : isFn K (.ref f) = true)
    (hc : wpAny (model prog w) A (call (.ref f) (.ref a :: args)) (fun v s' => Q (some v) s') E s) : wpAny (model prog w) A (callSpecial? (.ref a) name args) Q E s := by
  unfold callSpecial? specialOf
  refine wpAny_bind (wpAny_bind (I.type.here ((looks_findIn X hs).here ?_)))
  refine wpAny_holding ?_
  refine wpAny_bind ((bind_fn X _ (beq_iff_eq.mp hf)).here ?_)
  exact wpAny_bind (wpAny_mono hc (fun v s' z => wpAny_pure z) fun _ _ z => z)
theorem truthy_def {Q : Bool → Shared → Prop} (X : K.In s.heap) (I : InstAt s.heap a ox C od) (hs : findIn K (.ref C) "__bool__" = some (some (.ref f))) (hf : isFn K (.ref f) = true)
    (hc : wpAny (model prog w) A (call (.ref f) [.ref a]) (fun v s' => ∃ b, v = .bool b ∧ Q b s') E s) : wpAny (model prog w) A (truthy (.ref a)) Q E s := by
  unfold truthy
  refine wpAny_bind (special_def X I hs hf (wpAny_mono hc (fun v s' z => ?_) fun _ _ z => z))
  obtain ⟨b, rfl, q⟩ := z
  exact wpAny_pure q
theorem bool_new_def {S : Spec} (hS : ∀ A R s, S A R s → wpAny (model prog w) A.in1 (truthy (.ref a)) (fun b s' => R (.ok (.ret (.bool b))) s') (fun e s' => R (.error e) s') s) : MeetsIn prog w (Builtin.«bool.__new__» ⟨[.type "bool", .ref a], []⟩) S := fun A R s hs => by
  have h := hS A R s hs
  unfold Builtin.«bool.__new__»
  have f1 := F.conv_sub_bool
  obtain ⟨hp, g, d, tk, os⟩ := s
  repeat (any_goals (first | assumption | (with_reducible refine wpAny_mono h (fun b s' hb => ?_) fun _ _ z => z) | wp_step))
end
end OwnBool
end PySem

namespace DL
open PySem L2 PySem.Spec PyProof.Rows
open Evl (Ex)
section
variable {X : Cx} {cls : ClsT} {a e : Expr} {f : M D} {pos p1 : Pos} {c k j : Nat} {C : Addr} {nm : List Str} {F : List D → Option D}
/-- the truth of an object by its own __bool__, whatever runs around -/
theorem tru_obj {A : Around} {E : Value → Shared → Prop} {pins : List (Addr × Obj)} {s : Shared} {σ : L2.St} {H : Hp} {p dx : Addr} {fs : List (Str × V)} {sp : Sp} {Q : Bool → Hp → Prop} (cc : C8.Met X.prog X.w X.K X.mg X.base k C "__bool__" sp [])
    (hr : Room k A) (hfr : A.frames = X.A.frames) (I : Inv X pins σ H s) (hp : H p = some (.ins C dx fs)) (h : sp [.ref p] H (fun v H' => ∃ b, v = .bl b ∧ Q b H') C8.E0) :
    wpAny (model X.prog X.w) A (truthy (.ref p)) (TP X pins σ Q) E s := by
  obtain ⟨f, fd, ps, ds, hc, hm, F, b, d⟩ := cc.ex
  cases d
  obtain ⟨mA, J, _⟩ := ins_get I.hok hp
  obtain ⟨od, J, _⟩ := J.look
  refine OwnBool.truthy_def I.kIn J hm.at_ hm.fn ?_
  have e0 : Env0 X.prog X.w X.K X.mg X.base A X.stack s H := by
    have e := I.env0
    exact ⟨by rw [hfr]; exact e.frames, e.mod, e.bs, e.bsz, e.funs, e.frf, e.hok, e.bare⟩
  have hl := F.len _ _ _ _ h
  have r2 : Vals [V.ref p] [Value.ref p] := .cons rfl .nil
  refine wpAny_call (codeAny_mono (F.run A X.stack s H ⟨[.ref p], []⟩ [.ref p] [.ref p] _ C8.E0 hr e0 (by
    have := b s [.ref p] I.kIn (by simpa using hl)
    simpa using this) r2 h) fun r s' hq => ?_)
  cases r with
  | error e => exact False.elim hq
  | ok fl =>
    cases fl with
    | ret w =>
      obtain ⟨z, H', I', rz, b', ez, q⟩ := I.after hq
      subst ez
      cases rz
      exact ⟨b', rfl, H', I', q⟩
    | next => exact False.elim hq
    | brk => exact False.elim hq
    | cont => exact False.elim hq
/-- the truth of an object, by its class's answer -/
def bObj (c : Nat) (F : List D → Option D) (f : M D) : M Bool := fun s => (f s).bind fun p => match p.1 with
  | .obj c' fs => if c' = c then match F [.obj c' fs] with
    | some (.bl b) => some (b, p.2)
    | _ => none else none
  | _ => none
theorem bObj_some {s s' : S} {b : Bool} (h : bObj c F f s = some (b, s')) : ∃ fs, f s = some (.obj c fs, s') ∧ F [.obj c fs] = some (.bl b) := by
  unfold bObj at h
  cases h1 : f s with
  | none => rw [h1] at h; cases h
  | some p =>
    obtain ⟨p1, s1⟩ := p
    rw [h1] at h
    simp only [Option.bind_some] at h
    split at h
    · split at h
      · rename_i hc
        subst hc
        split at h
        · rename_i hF
          cases h
          exact ⟨_, rfl, hF⟩
        · cases h
      · cases h
    · cases h
theorem tru_d {A : Around} {E : Value → Shared → Prop} {pins : List (Addr × Obj)} {sh : Shared} {σ : L2.St} {H : Hp} {v : V} {u : Value} {B : Bs} {s : S} {G : Hp} {fs : List D} {b : Bool} {Q : Bool → Hp → Prop} (T : ClsOk X.K cls c C nm) (cc : C8.Met X.prog X.w X.K X.mg X.base k C "__bool__" (spP (Γx X cls) 1 F) [])
    (hr : Room k A) (hfr : A.frames = X.A.frames) (I : Inv X pins σ H sh) (ru : RelV v u) (R : SRel (Γx X cls) B s σ G H) (r : RepZ (Γx X cls) G (zone true B H) (.obj c fs) v) (hF : F [.obj c fs] = some (.bl b))
    (k : ∀ G' H', SRel (Γx X cls) B s σ G' H' → Ex G G' → HH B.mu H H' → Q b H') : wpAny (model X.prog X.w) A (truthy u) (TP X pins σ Q) E sh := by
  obtain ⟨p, C', nm', dx, fs', rfl, ec, hp, hn', hr'⟩ := r.obj R.gh
  have z : some (C', nm') = some (C, nm) := ec.symm.trans T.is
  injection z with z
  injection z with z1 z2
  subst z1 z2
  cases ru
  refine tru_obj cc hr hfr I hp ⟨G, [.obj c fs], .bl b, R.gh, rfl, ⟨_, _, rfl, r.mono (Ex.refl _) (zone_ex R), rfl⟩, hF, fun v G3 H3 gg3 gh3 hh3 fr r3 => ⟨b, by simpa only [Rep] using r3, k G3 H3 (R.grow gg3 gh3 hh3 fr) gg3 (HH.of hh3)⟩⟩
/-- an object as a test -/
theorem p_obj (T : ClsOk X.K cls c C nm) (cc : C8.Met X.prog X.w X.K X.mg X.base k C "__bool__" (spP (Γx X cls) 1 F) []) (hr : Room j X.A) (hk : k ≤ j) (he : PE X e (tB (Γx X cls) true f)) (hi : ∀ whole, isTrue e X.env whole = (do let v ← whole; standAt e.pos; holding [v] (truthy v)) := by intro _; rfl) :
    PT X e (tT (Γx X cls) (bObj c F f)) := ⟨fun pins sh σ H Q I ⟨B, s, G, R, b, s', e1, k⟩ => by
  obtain ⟨fs, h1, h2⟩ := bObj_some e1
  refine isTrue_plain (thn (he.run pins sh σ H (fun v H1 => ∃ G1, SRel (Γx X cls) B s' σ G1 H1 ∧ Ex G G1 ∧ HH B.mu H H1 ∧ RepZ (Γx X cls) G1 (zone true B H1) (.obj c fs) v) I ⟨B, s, G, R, _, s', h1, fun v G1 H1 R1 gg hh r => ⟨G1, R1, gg, hh, r⟩⟩) fun u s1 ⟨v, H1, I1, ru, G1, R1, gg, hh, r⟩ => ?_) (hi _)
  exact tru_d T cc (hr.mono hk) rfl I1 ru R1 r h2 fun G' H' R' gg' hh' => k G' H' R' (gg.trans gg') (hh.trans hh')⟩
def eB (u : M Bool) : M D := fun s => (u s).map fun p => (.bl p.1, p.2)
/-- not an object, as a value -/
theorem v_notO (T : ClsOk X.K cls c C nm) (cc : C8.Met X.prog X.w X.K X.mg X.base k C "__bool__" (spP (Γx X cls) 1 F) []) (hr : Room j X.A) (hk : k ≤ j) (he : PE X e (tB (Γx X cls) true f)) : PE X (.UnaryOp .Not e pos) (tV (Γx X cls) (eB (bNot (bObj c F f)))) := ⟨fun pins sh σ H Q I ⟨B, s, G, R, d, s', e1, k⟩ => by
  obtain ⟨p, hp, e2⟩ := map_some e1
  unfold bNot at hp
  obtain ⟨q, hq, rfl⟩ := map_some hp
  obtain ⟨b, s2⟩ := q
  cases e2
  obtain ⟨fs, h1, h2⟩ := bObj_some hq
  refine UnaryOp_ (thn (he.run pins sh σ H (fun v H1 => ∃ G1, SRel (Γx X cls) B s2 σ G1 H1 ∧ Ex G G1 ∧ HH B.mu H H1 ∧ RepZ (Γx X cls) G1 (zone true B H1) (.obj c fs) v) I ⟨B, s, G, R, _, s2, h1, fun v G1 H1 R1 gg hh r => ⟨G1, R1, gg, hh, r⟩⟩) fun u s1 ⟨v, H1, I1, ru, G1, R1, gg, hh, r⟩ => ?_)
  refine PyProof.Rows.not_of (thn (tru_d (Q := fun b' H2 => ∃ G2, SRel (Γx X cls) B s2 σ G2 H2 ∧ Ex G1 G2 ∧ HH B.mu H1 H2 ∧ b' = b) T cc (hr.mono hk) rfl I1 ru R1 r h2 fun G' H' R' gg' hh' => ⟨G', R', gg', hh', rfl⟩) fun b' s3 ⟨H2, I2, G2, R2, gg2, hh2, eb⟩ => ?_)
  subst eb
  exact ⟨.bl (!b'), H2, I2, rfl, k _ G2 H2 R2 (gg.trans gg2) (hh.trans hh2) (by simp only [Rep])⟩⟩
/-- bool(an object) -/
theorem v_boolO (T : ClsOk X.K cls c C nm) (cc : C8.Met X.prog X.w X.K X.mg X.base k C "__bool__" (spP (Γx X cls) 1 F) []) (hr : Room j X.A) (hk : k + 3 ≤ j) (hm : X.mg "bool" = none) (he : PE X e (tB (Γx X cls) true f)) (hg : Gl X "bool" := by rfl)
    (na : starEach [e] X.env = (false, eval e X.env) :: starEach [] X.env := by rfl) : PE X (.Call (.Name "bool" p1) [e] [] pos) (tV (Γx X cls) (eB (bObj c F f))) := ⟨fun pins sh σ H Q I ⟨B, s, G, R, d, s', e1, k⟩ => by
  obtain ⟨p, hp, e2⟩ := map_some e1
  obtain ⟨b, s2⟩ := p
  cases e2
  obtain ⟨fs, h1, h2⟩ := bObj_some hp
  refine Call_ (ld_blt I hg hm PyProof.Rows.boot_bool ?_)
  refine PyProof.Rows.callWith_type1 (PyProof.Rows.args_cons (thn (he.run pins sh σ H (fun v H1 => ∃ G1, SRel (Γx X cls) B s2 σ G1 H1 ∧ Ex G G1 ∧ HH B.mu H H1 ∧ RepZ (Γx X cls) G1 (zone true B H1) (.obj c fs) v) I ⟨B, s, G, R, _, s2, h1, fun v G1 H1 R1 gg hh r => ⟨G1, R1, gg, hh, r⟩⟩) fun u s1 ⟨v, H1, I1, ru, G1, R1, gg, hh, r⟩ => PyProof.Rows.args_nil ?_) na) na rfl
  obtain ⟨p, C', nm', dx, fs', rfl, ec, hp', hn', hr'⟩ := r.obj R1.gh
  cases ru
  refine PySem.callType_newIn (S := fun A R s => wpAny (model X.prog X.w) A.in1 (truthy (.ref p)) (fun b s' => R (.ok (.ret (.bool b))) s') (fun e s' => R (.error e) s') s) PySem.F.called_bool PySem.F.newNe_bool (PySem.F.typeCall_bool_1 _) (PySem.F.newCall_bool_1 _) (fun obj => PySem.F.args_object_init_2 obj _) PySem.F.entry_bool_new (OwnBool.bool_new_def fun A R s h => h) ?_
  have hr3 := hr.mono hk
  refine thn (tru_d (Q := fun b' H2 => ∃ G2, SRel (Γx X cls) B s2 σ G2 H2 ∧ Ex G1 G2 ∧ HH B.mu H1 H2 ∧ b' = b) T cc (hr3.in1.in1.mono (Nat.le_succ _)) rfl I1 (show L2.RelV (V.ref p) (Value.ref p) from rfl) R1 r h2 fun G' H' R' gg' hh' => ⟨G', R', gg', hh', rfl⟩) fun b' s3 ⟨H2, I2, G2, R2, gg2, hh2, eb⟩ => ?_
  subst eb
  exact ⟨rfl, .bl b', H2, I2, rfl, k _ G2 H2 R2 (gg.trans gg2) (hh.trans hh2) (by simp only [Rep])⟩⟩
end
end DL


set_option Elab.async false
set_option linter.all false
set_option maxRecDepth 100000
set_option maxHeartbeats 1000000
namespace DL
open PySem L2 PySem.Spec PyProof.Rows
open Evl (Ex)

/-! ### isinstance -/
def tyN : D → Option String
  | .non => some "NoneType"
  | .bl _ => some "bool"
  | .int _ => some "int"
  | .str _ => some "str"
  | .lst _ => some "list"
  | .tup _ => some "tuple"
  | .dK _ _ => some "dict"
  | .dT _ _ => some "dict"
  | _ => none
theorem tyV_of {Γ : Ctx} {G Z H : Hp} {d : D} {v : V} {n : String} (gh : Ex G H) (zh : Ex Z H) (r : RepZ Γ G Z d v) (e : tyN d = some n) : TyX Γ.K H v (.type n) := by
  cases d with
  | non => cases e; rw [r.non]; exact .base .non
  | bl b => cases e; rw [r.bl]; exact .base (.bl b)
  | int i => cases e; rw [r.int]; exact .base (.int i)
  | str x => cases e; rw [r.str]; exact .base (.str x)
  | lst xs =>
    cases e
    obtain ⟨a, vs, rfl, h, _⟩ := r.lst gh zh
    exact .base (.lst h)
  | tup xs =>
    cases e
    obtain ⟨a, vs, rfl, h, _⟩ := r.tup gh
    exact .base (.tup h)
  | dK ks xs =>
    cases e
    obtain ⟨a, vs, rfl, h, _⟩ := r.dK gh zh
    exact .base (.dK h)
  | dT ks xs =>
    cases e
    obtain ⟨a, vs, rfl, h, _⟩ := r.dT gh zh
    exact .base (.dT h)
  | _ => cases e
/-- is of one of these built-in types -/
def isiB (t : String) : List String → Option Bool
  | [] => some false
  | c :: r => match kitB t c with
    | some true => some true
    | some false => isiB t r
    | none => none
theorem isiB_any {K : PySem.W.Frag} {t : String} : ∀ {cs : List String} {b : Bool}, isiB t cs = some b → PySem.W.kitAny K (.type t) (cs.map Value.type) = some b
  | [], b, h => h
  | c :: r, b, h => by
    unfold isiB at h
    cases e : kitB t c with
    | none => rw [e] at h; cases h
    | some z =>
      rw [e] at h
      cases z with
      | true => cases h; exact kitAny_cons (kit_ty e) (fun z => nomatch z) fun _ => rfl
      | false => exact kitAny_cons (kit_ty e) (fun _ => isiB_any h) (fun z => nomatch z)
def gIsi (cs : List String) (d : D) : Option D := (tyN d).bind fun t => (isiB t cs).map .bl
section
variable {X : Cx} {cls : ClsT} {e a b : Expr} {f h : M D} {pos p1 p2 p3 p4 : Pos} {u w : M Bool}
theorem v_isi {T : String} (hm : X.mg "isinstance" = none) (hmT : X.mg T = none) (hgT : Gl X T) (hvT : bootBuiltins T = some (.type T)) (he : PE X e (tB (Γx X cls) true f)) (hg : Gl X "isinstance" := by rfl) (hn : (T : Str) ≠ "__name__" := by decide) (hd : ((T : Str) == ("__debug__" : Str)) = false := by decide)
    (s1 : starEach (e :: [.Name T p3]) X.env = (false, eval e X.env) :: starEach [.Name T p3] X.env := by rfl) (s2 : starEach [Expr.Name T p3] X.env = (false, eval (.Name T p3) X.env) :: starEach [] X.env := by rfl) (s3 : (backTo pos (starEach [Expr.Name T p3] X.env)).any (·.1) = false := by rfl) :
    PE X (.Call (.Name "isinstance" p1) [e, .Name T p3] [] pos) (tV (Γx X cls) (eUn (gIsi [T]) f)) :=
  pe_imp (pe_callB call_isi hg hm PyProof.Rows.boot_isinstance (pa_cons he (pa_cons (pe_bltn (v := .ty T) (u := .type T) hgT hmT hvT rfl hn hd) pa_nil s2) s1) (he := s1) (hpl := s3)) fun σ H Q ⟨B, s, G, R, d, s', e1, k⟩ => by
    obtain ⟨d1, h1, h2⟩ := eUn_some e1
    refine ⟨B, s, G, R, d1, s', h1, fun v G1 H1 R1 gg hh r => ?_⟩
    unfold gIsi at h2
    cases ht : tyN d1 with
    | none => rw [ht] at h2; cases h2
    | some t =>
      rw [ht] at h2
      obtain ⟨bb, h3, rfl⟩ := map_some h2
      have h4 := isiB_any (K := X.K) h3
      refine ⟨v, .ty T, .type t, .type T, bb, rfl, .ty T, tyV_of R1.gh (zone_ex R1) r ht, ?_, k _ G1 H1 R1 gg hh (by simp only [Rep])⟩
      unfold isiB at h3
      cases e5 : kitB t T with
      | none => rw [e5] at h3; cases h3
      | some z =>
        rw [e5] at h3
        cases z with
        | true => cases h3; exact kit_ty e5
        | false => cases h3; exact kit_ty e5

/-- isinstance(x, (A, B)) -/
theorem v_isi2 {T T2 : String} {x1 : Nat} (hm : X.mg "isinstance" = none) (hmT : X.mg T = none) (hgT : Gl X T) (hvT : bootBuiltins T = some (.type T)) (hmU : X.mg T2 = none) (hgU : Gl X T2) (hvU : bootBuiltins T2 = some (.type T2)) (he : PE X e (tB (Γx X cls) true f))
    (hg : Gl X "isinstance" := by rfl) (hn : (T : Str) ≠ "__name__" := by decide) (hd : ((T : Str) == ("__debug__" : Str)) = false := by decide) (hn2 : (T2 : Str) ≠ "__name__" := by decide) (hd2 : ((T2 : Str) == ("__debug__" : Str)) = false := by decide)
    (s1 : starEach (e :: [Expr.Tuple [.Name T p2, .Name T2 p3] x1 p4]) X.env = (false, eval e X.env) :: starEach [Expr.Tuple [.Name T p2, .Name T2 p3] x1 p4] X.env := by rfl) (s2 : starEach [Expr.Tuple [.Name T p2, .Name T2 p3] x1 p4] X.env = (false, eval (Expr.Tuple [.Name T p2, .Name T2 p3] x1 p4) X.env) :: starEach [] X.env := by rfl)
    (s3 : (backTo pos (starEach [Expr.Tuple [.Name T p2, .Name T2 p3] x1 p4] X.env)).any (·.1) = false := by rfl) (s4 : starEach (.Name T p2 :: [.Name T2 p3]) X.env = (false, eval (.Name T p2) X.env) :: starEach [.Name T2 p3] X.env := by rfl) (s5 : starEach [Expr.Name T2 p3] X.env = (false, eval (.Name T2 p3) X.env) :: starEach [] X.env := by rfl) :
    PE X (.Call (.Name "isinstance" p1) [e, .Tuple [.Name T p2, .Name T2 p3] x1 p4] [] pos) (tV (Γx X cls) (eUn (gIsi [T, T2]) f)) :=
  pe_imp (pe_callB call_isiT hg hm PyProof.Rows.boot_isinstance (pa_cons he (pa_cons (pe_tup (pa_cons (pe_bltn (v := .ty T) (u := .type T) hgT hmT hvT rfl hn hd) (pa_cons (pe_bltn (v := .ty T2) (u := .type T2) hgU hmU hvU rfl hn2 hd2) pa_nil s5) s4)) pa_nil s2) s1) (he := s1) (hpl := s3)) fun σ H Q ⟨B, s, G, R, d, s', e1, k⟩ => by
    obtain ⟨d1, h1, h2⟩ := eUn_some e1
    refine ⟨B, s, G, R, d1, s', h1, fun v G1 H1 R1 gg hh r => ⟨lim_le (by show 2 ≤ lim; decide), fun p hp => ?_⟩⟩
    unfold gIsi at h2
    cases ht : tyN d1 with
    | none => rw [ht] at h2; cases h2
    | some t =>
      rw [ht] at h2
      obtain ⟨bb, h3, rfl⟩ := map_some h2
      have R2 := R1.upd_free (p := p) (o := .tup [V.ty T, V.ty T2]) (R1.munone hp) (R1.h0none hp) (R1.gnone hp) (R1.apart hp)
      refine ⟨v, p, [.ty T, .ty T2], .type t, [.type T, .type T2], bb, rfl, upd_same, .cons (.ty T) (.cons (.ty T2) .nil), tyV_of (G := G1) (Z := zone true B H1) (R1.gh.trans (Ex.new hp)) ((zone_ex R1).trans (Ex.new hp)) r ht, isiB_any h3, ?_⟩
      exact k _ G1 _ R2 gg (hh.trans (HH.of (Ex.new hp))) (by simp only [Rep])
/-- isinstance(x, C), C an own class: what it answers at the objects of the classes in tb, and at the built-in types in ts (no) -/
structure IsiOk (K : PySem.W.Frag) (cls : ClsT) (C : Addr) (tb : List (Nat × Bool)) (ts : List String) : Prop where
  ob : ∀ q ∈ tb, ∃ C' nm, cls q.1 = some (C', nm) ∧ C8.InsC K C' ∧ PySem.W.kitOne K (.ref C') (.ref C) = some q.2
  ty : ∀ t ∈ ts, PySem.W.kitOne K (.type t) (.ref C) = some false
def gIsC (tb : List (Nat × Bool)) (ts : List String) : D → Option D
  | .obj c _ => (tb.lookup c).map .bl
  | d => (tyN d).bind fun t => if t ∈ ts then some (.bl false) else none
theorem lookup_mem {tb : List (Nat × Bool)} {c : Nat} {b : Bool} (h : tb.lookup c = some b) : (c, b) ∈ tb := by
  induction tb with
  | nil => cases h
  | cons q r ih =>
    rw [List.lookup_cons] at h
    split at h
    · rename_i e
      cases h
      have e2 : c = q.1 := by simpa using e
      rw [e2]
      exact List.mem_cons_self
    · exact List.mem_cons_of_mem _ (ih h)
theorem v_isC {x : Str} {C : Addr} {tb : List (Nat × Bool)} {ts : List String} (ok : IsiOk X.K cls C tb ts) (hm : X.mg "isinstance" = none) (hmC : X.mg x = some (.ref C)) (he : PE X e (tB (Γx X cls) true f)) (hg : Gl X "isinstance" := by rfl) (hgC : Gl X x := by rfl) (hd : (x == ("__debug__" : Str)) = false := by decide)
    (s1 : starEach (e :: [Expr.Name x p3]) X.env = (false, eval e X.env) :: starEach [Expr.Name x p3] X.env := by rfl) (s2 : starEach [Expr.Name x p3] X.env = (false, eval (.Name x p3) X.env) :: starEach [] X.env := by rfl) (s3 : (backTo pos (starEach [Expr.Name x p3] X.env)).any (·.1) = false := by rfl) :
    PE X (.Call (.Name "isinstance" p1) [e, .Name x p3] [] pos) (tV (Γx X cls) (eUn (gIsC tb ts) f)) :=
  pe_imp (pe_callB call_isi hg hm PyProof.Rows.boot_isinstance (pa_cons he (pa_cons (pe_glob (v := .ref C) (u := .ref C) hgC hmC rfl hd) pa_nil s2) s1) (he := s1) (hpl := s3)) fun σ H Q ⟨B, s, G, R, d, s', e1, k⟩ => by
    obtain ⟨d1, h1, h2⟩ := eUn_some e1
    refine ⟨B, s, G, R, d1, s', h1, fun v G1 H1 R1 gg hh r => ?_⟩
    have byTy : ∀ t, tyN d1 = some t → t ∈ ts → d = .bl false → rIsi X.K [v, V.ref C] H1 Q := fun t ht hm' e => by
      subst e
      exact ⟨v, .ref C, .type t, .ref C, false, rfl, .own C, tyV_of R1.gh (zone_ex R1) r ht, ok.ty t hm', k _ G1 H1 R1 gg hh (by simp only [Rep])⟩
    cases d1 with
    | obj c fs =>
      obtain ⟨bb, h3, rfl⟩ := map_some h2
      obtain ⟨C', nm, hc, ic, hk⟩ := ok.ob _ (lookup_mem h3)
      obtain ⟨p, C2, nm2, dx, fs', rfl, hc2, hp, hn, hr⟩ := r.obj R1.gh
      have z : some (C2, nm2) = some (C', nm) := hc2.symm.trans hc
      injection z with z
      injection z with z1 z2
      subst z1
      exact ⟨_, .ref C, .ref C2, .ref C, bb, rfl, .own C, .base (.ins hp ic.cl ic.ha ic.hn ic.htk ic.hm), hk, k _ G1 H1 R1 gg hh (by simp only [Rep])⟩
    | scr ns => cases h2
    | _ =>
      unfold gIsC tyN at h2
      simp only [Option.bind_some] at h2
      split at h2
      · rename_i hm'
        cases h2
        exact byTy _ rfl hm' rfl
      · cases h2

/-! ### list(range(..)) -/
def gLR1 : D → Option D
  | .int n => if -1000000 ≤ n ∧ n ≤ 100000 then some (.lst (rangeD 0 n.toNat)) else none
  | _ => none
def gLR2 (x y : D) : Option D := match x, y with
  | .int i, .int j => if -1000000 ≤ i ∧ i ≤ 1000000 ∧ -1000000 ≤ j ∧ j ≤ 1000000 ∧ j - i ≤ 100000 then some (.lst (rangeD i (j - i).toNat)) else none
  | _, _ => none
theorem rgV_rep {Γ : Ctx} {G : Hp} (a b : Int) : RepL Γ G (rangeD a (b - a).toNat) (rgV a b) := by
  unfold rangeD rgV
  generalize (b - a).toNat = n
  have go : ∀ l : List Nat, RepL Γ G (l.map fun (i : Nat) => D.int (a + (i : Int))) (l.map fun i => V.int (a + (i : Nat))) := by
    intro l
    induction l with
    | nil => exact repL_nil
    | cons x r ih => exact repL_cons (by simp only [Rep]) ih
  exact go _
theorem f_listRg1 (hc : X.calm = true) (hm : X.mg "list" = none) (hm2 : X.mg "range" = none) (he : PE X e (tB (Γx X cls) true f)) (hg : Gl X "list" := by rfl) (hg2 : Gl X "range" := by rfl) (na : starEach [e] X.env = (false, eval e X.env) :: starEach [] X.env := by rfl)
    (nb : starEach [Expr.Call (.Name "range" p2) [e] [] p3] X.env = (false, eval (Expr.Call (.Name "range" p2) [e] [] p3) X.env) :: starEach [] X.env := by rfl) :
    PE X (.Call (.Name "list" p1) [.Call (.Name "range" p2) [e] [] p3] [] pos) (tF (Γx X cls) (eUn gLR1 f)) := pe_imp (pe_listRg hc hg hm (prg_1 hg2 hm2 he na) nb) fun σ H Q ⟨B, s, G, R, d, s', e1, k⟩ => by
  obtain ⟨d1, h1, h2⟩ := eUn_some e1
  cases d1 with
  | int n =>
    simp only [gLR1] at h2
    split at h2
    · rename_i hn
      cases h2
      refine ⟨B, s, G, R, _, s', h1, fun v G1 H1 R1 gg hh r => ⟨n, r.int, ⟨by omega, by omega, by omega, by omega, by omega⟩, fun q hq => ?_⟩⟩
      have c := rgV_rep (Γ := Γx X cls) (G := G1) 0 n
      rw [Int.sub_zero] at c
      exact k q _ G1 _ (R1.upd_free (R1.munone hq) (R1.h0none hq) (R1.gnone hq) (R1.apart hq)) gg (hh.trans (HH.of (Ex.new hq))) (hh.free (R1.munone hq) hq) (R1.gnone hq) upd_same c (R1.apart hq)
    · cases h2
  | _ => cases h2
theorem f_listRg2 (hc : X.calm = true) (hm : X.mg "list" = none) (hm2 : X.mg "range" = none) (ha : PE X a (tB (Γx X cls) true f)) (hb : PE X b (tB (Γx X cls) true h)) (hg : Gl X "list" := by rfl) (hg2 : Gl X "range" := by rfl) (na : starEach [a, b] X.env = (false, eval a X.env) :: starEach [b] X.env := by rfl)
    (nc : starEach [b] X.env = (false, eval b X.env) :: starEach [] X.env := by rfl) (hp : (backTo p3 (starEach [b] X.env)).any (·.1) = false := by rfl)
    (nb : starEach [Expr.Call (.Name "range" p2) [a, b] [] p3] X.env = (false, eval (Expr.Call (.Name "range" p2) [a, b] [] p3) X.env) :: starEach [] X.env := by rfl) :
    PE X (.Call (.Name "list" p1) [.Call (.Name "range" p2) [a, b] [] p3] [] pos) (tF (Γx X cls) (eOp gLR2 f h)) := pe_imp (pe_listRg hc hg hm (prg_2 hg2 hm2 ha hb na nc hp) nb) fun σ H Q ⟨B, s, G, R, d, s', e1, k⟩ => by
  obtain ⟨d1, s1, d2, h1, h2, h3⟩ := eOp_some e1
  unfold gLR2 at h3
  split at h3
  · rename_i i j
    split at h3
    · rename_i hn
      cases h3
      refine ⟨B, s, G, R, _, s1, h1, fun v G1 H1 R1 gg1 hh1 r1 => ⟨B, s1, G1, R1, _, s', h2, fun w G2 H2 R2 gg2 hh2 r2 => ⟨i, j, r1.int, r2.int, ⟨by omega, by omega, by omega, by omega, by omega⟩, fun q hq => ?_⟩⟩⟩
      exact k q _ G2 _ (R2.upd_free (R2.munone hq) (R2.h0none hq) (R2.gnone hq) (R2.apart hq)) (gg1.trans gg2) ((hh1.trans hh2).trans (HH.of (Ex.new hq))) ((hh1.trans hh2).free (R2.munone hq) hq) (R2.gnone hq) upd_same (rgV_rep i j) (R2.apart hq)
    · cases h3
  · cases h3
end

/-! ### a, b = x, [..]: values and new cells at once -/
def PcOk (Γ : Ctx) (B : Bs) (s : S) (σ : L2.St) (G H : Hp) : Sl → V → Prop
  | .val d, v => Rep Γ G d v
  | .own d, v => ∃ p o, v = .ref p ∧ (p ∉ B.mu ∧ p ∉ B.pr) ∧ B.H0 p = none ∧ G p = none ∧ H p = some o ∧ Cell Γ G d o ∧ Apart s σ p
  | _, _ => False
def Pcs (Γ : Ctx) (B : Bs) (s : S) (σ : L2.St) (G H : Hp) : List Sl → List V → Prop
  | [], vs => vs = []
  | x :: xs, vs => ∃ v r, vs = v :: r ∧ PcOk Γ B s σ G H x v ∧ (isOwn (some x) → ∀ (j : Nat), isOwn xs[j]? → r[j]? ≠ some v) ∧ Pcs Γ B s σ G H xs r
def tX (Γ : Ctx) (f : M (List Sl)) : TA := fun σ H Q => ∃ B s G, SRel Γ B s σ G H ∧ ∃ d s', f s = some (d, s') ∧
  ∀ v G' H', SRel Γ B s' σ G' H' → Ex G G' → HH B.mu H H' → Pcs Γ B s' σ G' H' d v → Q v H'
def xNil : M (List Sl) := fun s => some ([], s)
def xVal (f : M D) (h : M (List Sl)) : M (List Sl) := fun s => (f s).bind fun p => (h p.2).map fun q => (.val p.1 :: q.1, q.2)
def xOwn (f : M D) (h : M (List Sl)) : M (List Sl) := fun s => (f s).bind fun p => (h p.2).map fun q => (.own p.1 :: q.1, q.2)
section
variable {Γ : Ctx} {B : Bs} {s : S} {σ : L2.St} {G H : Hp}
theorem PcOk.unprot {p : Addr} {x : Sl} {v : V} (h : PcOk Γ (B.prot p) s σ G H x v) : PcOk Γ B s σ G H x v := by
  cases x with
  | own d =>
    obtain ⟨q, o, e, n, z⟩ := h
    exact ⟨q, o, e, ⟨n.1, fun m => n.2 (List.mem_cons_of_mem _ m)⟩, z⟩
  | _ => exact h
theorem Pcs.unprot {p : Addr} : ∀ {xs : List Sl} {vs : List V}, Pcs Γ (B.prot p) s σ G H xs vs → Pcs Γ B s σ G H xs vs
  | [], _, h => h
  | x :: xs, _, ⟨v, r, e, h1, h2, h3⟩ => ⟨v, r, e, h1.unprot, h2, h3.unprot⟩
theorem Pcs.ne {p : Addr} : ∀ {xs : List Sl} {vs : List V}, Pcs Γ (B.prot p) s σ G H xs vs → ∀ (j : Nat), isOwn xs[j]? → vs[j]? ≠ some (.ref p)
  | [], _, _, j, h, _ => by simp at h; exact h
  | x :: xs, _, ⟨v, r, e, h1, h2, h3⟩, 0, h, z => by
    subst e
    simp at h z
    cases x with
    | own d =>
      obtain ⟨q, o, e, n, _⟩ := h1
      rw [z] at e
      cases e
      exact n.2 List.mem_cons_self
    | _ => exact h
  | x :: xs, _, ⟨v, r, e, h1, h2, h3⟩, j + 1, h, z => by
    subst e
    exact h3.ne j (by simpa using h) (by simpa using z)
theorem Pcs.length : ∀ {xs : List Sl} {vs : List V}, Pcs Γ B s σ G H xs vs → xs.length = vs.length
  | [], _, h => by cases h; rfl
  | x :: xs, _, ⟨v, r, e, h1, h2, h3⟩ => by subst e; simp only [List.length_cons, h3.length]
theorem PcOk.upd {x : Sl} {v : V} {p : Addr} {o : HO} (h : PcOk Γ B s σ G H x v) (hp : H p = none) : PcOk Γ B s σ G (upd H p o) x v := by
  cases x with
  | own d =>
    obtain ⟨q, o', e, n, z1, z2, z3, z⟩ := h
    exact ⟨q, o', e, n, z1, z2, (Ex.new hp) _ _ z3, z⟩
  | _ => exact h
theorem Pcs.upd {p : Addr} {o : HO} (hp : H p = none) : ∀ {xs : List Sl} {vs : List V}, Pcs Γ B s σ G H xs vs → Pcs Γ B s σ G (L2.upd H p o) xs vs
  | [], _, h => h
  | x :: xs, _, ⟨v, r, e, h1, h2, h3⟩ => ⟨v, r, e, h1.upd hp, h2, Pcs.upd hp h3⟩
/-- put to slots, from the left -/
def putXs : List Nat → List Sl → S → S
  | i :: is, x :: xs, s => putXs is xs (s.put i x)
  | _, _, s => s
def setXs : List Nat → List V → L2.St → L2.St
  | i :: is, v :: vs, σ => setXs is vs (σ.set i (some v))
  | _, _, σ => σ
theorem PcOk.put {x y : Sl} {v w : V} {i : Nat} (hx : PcOk Γ B s σ G H x v) (hy : PcOk Γ B s σ G H y w) (hd : isOwn (some x) → isOwn (some y) → w ≠ v) : PcOk Γ B (s.put i x) (σ.set i (some v)) G H y w := by
  cases y with
  | own d =>
    obtain ⟨q, o, e, n, z1, z2, z3, z4, ap⟩ := hy
    refine ⟨q, o, e, n, z1, z2, z3, z4, fun j hj ej => ?_⟩
    rcases isOwn_set hj with ⟨rfl, ho, hl⟩ | ⟨nj, ho⟩
    · by_cases hl2 : j < σ.length
      · rw [join_set hl2] at ej
        injection ej with ej
        exact hd ho trivial (by rw [e, ej])
      · have : (σ.set j (some v))[j]? = none := List.getElem?_eq_none (by simpa using Nat.le_of_not_lt hl2)
        rw [this] at ej
        cases ej
    · rw [join_set_ne nj] at ej
      exact ap j ho ej
  | _ => exact hy
theorem Pcs.put {x : Sl} {v : V} {i : Nat} (hx : PcOk Γ B s σ G H x v) : ∀ {ys : List Sl} {ws : List V}, Pcs Γ B s σ G H ys ws → (isOwn (some x) → ∀ (j : Nat), isOwn ys[j]? → ws[j]? ≠ some v) → Pcs Γ B (s.put i x) (σ.set i (some v)) G H ys ws
  | [], _, h, _ => h
  | y :: ys, _, ⟨w, r, e, h1, h2, h3⟩, hd => ⟨w, r, e, hx.put h1 (fun a b z => hd a 0 (by simpa using b) (by subst e; simp [z])), h2, Pcs.put hx h3 fun a j b z => hd a (j + 1) (by simpa using b) (by subst e; simpa using z)⟩
theorem SRel.setXs : ∀ {is : List Nat} {xs : List Sl} {vs : List V} {s : S} {σ : L2.St}, SRel Γ B s σ G H → Pcs Γ B s σ G H xs vs → SRel Γ B (putXs is xs s) (DL.setXs is vs σ) G H
  | [], _, _, _, _, R, _ => by unfold putXs DL.setXs; exact R
  | i :: is, [], _, _, _, R, h => by cases h; exact R
  | i :: is, x :: xs, _, s, σ, R, ⟨v, r, e, h1, h2, h3⟩ => by
    subst e
    refine SRel.setXs (is := is) ?_ (Pcs.put h1 h3 h2)
    cases x with
    | val d => exact R.set_val h1
    | own d =>
      obtain ⟨p, o, rfl, n, z1, z2, z3, z4, ap⟩ := h1
      exact R.set_own n z1 z2 z3 z4 ap
    | _ => exact h1.elim
end
section
variable {X : Cx} {cls : ClsT} {e a b c : Expr} {es : List Expr} {f h : M D} {q : M (List Sl)} {pos : Pos}
theorem x_nil : PA X [] (tX (Γx X cls) xNil) := pa_imp pa_nil fun σ H Q ⟨B, s, G, R, d, s', e1, k⟩ => by
  cases e1
  exact k _ G H R (Ex.refl G) HH.refl rfl
theorem x_val (he : PE X e (tV (Γx X cls) f)) (hr : PA X es (tX (Γx X cls) q)) (hs : starEach (e :: es) X.env = (false, eval e X.env) :: starEach es X.env := by rfl) : PA X (e :: es) (tX (Γx X cls) (xVal f q)) :=
  pa_imp (pa_cons he hr hs) fun σ H Q ⟨B, s, G, R, d, s', e1, k⟩ => by
    unfold xVal at e1
    cases h1 : f s with
    | none => rw [h1] at e1; cases e1
    | some p =>
      rw [h1] at e1
      obtain ⟨r, h2, e2⟩ := map_some e1
      cases e2
      exact ⟨B, s, G, R, p.1, p.2, h1, fun x G1 H1 R1 gg1 hh1 r1 => ⟨B, p.2, G1, R1, r.1, r.2, h2, fun xs G2 H2 R2 gg2 hh2 r2 => k _ G2 H2 R2 (gg1.trans gg2) (hh1.trans hh2) ⟨x, xs, rfl, r1.mono gg2, fun z => z.elim, r2⟩⟩⟩
theorem x_own (he : PE X e (tF (Γx X cls) f)) (hr : PA X es (tX (Γx X cls) q)) (hs : starEach (e :: es) X.env = (false, eval e X.env) :: starEach es X.env := by rfl) : PA X (e :: es) (tX (Γx X cls) (xOwn f q)) :=
  pa_imp (pa_cons he hr hs) fun σ H Q ⟨B, s, G, R, d, s', e1, k⟩ => by
    unfold xOwn at e1
    cases h1 : f s with
    | none => rw [h1] at e1; cases e1
    | some p =>
      rw [h1] at e1
      obtain ⟨r, h2, e2⟩ := map_some e1
      cases e2
      refine ⟨B, s, G, R, p.1, p.2, h1, fun a o G1 H1 R1 gg1 hh1 n0 n1 hp c ap => ⟨B.prot a, p.2, G1, R1.prot n1 (by rw [hp]; simp) (R.h0none n0) ap, r.1, r.2, h2, fun xs G2 H2 R2 gg2 hh2 r2 => ?_⟩⟩
      exact k _ G2 H2 R2.unprot (gg1.trans gg2) (hh1.trans hh2) ⟨_, xs, rfl, ⟨a, o, rfl, ⟨R.munone n0, R.prnone n0⟩, R.h0none n0, (R2.pr a List.mem_cons_self).1, hh2 _ _ (R.munone n0) hp, c.mono gg2, R2.apart_prot⟩, fun _ => r2.ne, r2.unprot⟩
def cPar (is : List Nat) (q : M (List Sl)) : St1 := fun s => (q s).bind fun p => if p.1.length = is.length then some (.nx (putXs is p.1 p.2)) else none
theorem cPar_some {is : List Nat} {s : S} {o : Out} (h : cPar is q s = some o) : ∃ xs s', q s = some (xs, s') ∧ xs.length = is.length ∧ o = .nx (putXs is xs s') := by
  unfold cPar at h
  cases h1 : q s with
  | none => rw [h1] at h; cases h
  | some p =>
    rw [h1] at h
    simp only [Option.bind_some] at h
    split at h
    · cases h
      exact ⟨p.1, p.2, rfl, by assumption, rfl⟩
    · cases h
variable {st : Stmt}
/-- two plain locals -/
theorem s_par2 {i j : Nat} (hs : PS X st (tPar i j (tX (Γx X cls) q))) : PS X st (tS (Γx X cls) (cPar [i, j] q)) := ps_imp hs fun D σ H ⟨B, s, G, R, o, e1, k⟩ => by
  obtain ⟨xs, s', h1, h2, rfl⟩ := cPar_some e1
  refine ⟨B, s, G, R, xs, s', h1, fun vs G1 H1 R1 gg hh r => ?_⟩
  have hl : vs.length = 2 := by rw [← r.length]; exact h2
  obtain ⟨v, w, rfl⟩ : ∃ v w, vs = [v, w] := by
    match vs, hl with
    | [v, w], _ => exact ⟨v, w, rfl⟩
  exact ⟨v, w, rfl, k _ G1 H1 (R1.setXs (is := [i, j]) r) gg⟩
theorem s_par3 {i j l : Nat} (hs : PS X st (tPar3 i j l (tX (Γx X cls) q))) : PS X st (tS (Γx X cls) (cPar [i, j, l] q)) := ps_imp hs fun D σ H ⟨B, s, G, R, o, e1, k⟩ => by
  obtain ⟨xs, s', h1, h2, rfl⟩ := cPar_some e1
  refine ⟨B, s, G, R, xs, s', h1, fun vs G1 H1 R1 gg hh r => ?_⟩
  have hl : vs.length = 3 := by rw [← r.length]; exact h2
  obtain ⟨u, v, w, rfl⟩ : ∃ u v w, vs = [u, v, w] := by
    match vs, hl with
    | [u, v, w], _ => exact ⟨u, v, w, rfl⟩
  exact ⟨u, v, w, rfl, k _ G1 H1 (R1.setXs (is := [i, j, l]) r) gg⟩
/-- names at once, some of them cells of the def -/
def gNs : List Nat → TGs
  | [] => fun vs σ H Q => vs = [] ∧ Q σ H
  | i :: is => fun vs σ H Q => ∃ v r, vs = v :: r ∧ gNs is r (σ.set i (some v)) H Q
theorem gn_nil : PGs X [] (gNs []) := pgs_imp pgs_nil fun v σ H Q h => h
theorem gn_cons {i : Nat} {is : List Nat} (h1 : PG X e (gName i)) (h2 : PGs X es (gNs is)) (hs : (assignEach (e :: es) X.env).map (·.2) = assign e X.env :: (assignEach es X.env).map (·.2) := by rfl) : PGs X (e :: es) (gNs (i :: is)) := pgs_imp (pgs_cons h1 h2 hs) fun v σ H Q ⟨w, r, e, z⟩ => ⟨w, r, e, z⟩
theorem gns_set : ∀ {is : List Nat} {vs : List V} {σ : L2.St} {H : Hp} {Q : L2.St → Hp → Prop}, vs.length = is.length → Q (setXs is vs σ) H → gNs is vs σ H Q
  | [], vs, _, _, _, hl, q => ⟨List.eq_nil_of_length_eq_zero hl, by unfold setXs at q; exact q⟩
  | i :: is, [], _, _, _, hl, q => by simp at hl
  | i :: is, v :: vs, _, _, _, hl, q => ⟨v, vs, rfl, gns_set (by simpa using hl) q⟩
variable {x1 k1 : Nat} {tp spos : Pos} {ts : List Expr}
theorem s_parT {is : List Nat} (hc : X.calm = true) (hz : is.length ≤ lim) (ha : PA X es (tX (Γx X cls) q)) (hg : PGs X ts (gNs is)) (hn : (assignEach ts X.env).length = is.length := by rfl) (hst : (assignEach ts X.env).findIdx? (·.1) = none := by rfl)
    (hs : swapsWithSole [.Tuple ts k1 tp] (.Tuple es x1 pos) spos.line X.env = pure false := by rfl) (hw : swappedStores [.Tuple ts k1 tp] (.Tuple es x1 pos) X.env = pure none := by rfl) (h1 : (assignEach [.Tuple ts k1 tp] X.env).map (·.2) = [assign (.Tuple ts k1 tp) X.env] := by rfl) :
    PS X (.Assign [.Tuple ts k1 tp] (.Tuple es x1 pos) spos) (tS (Γx X cls) (cPar is q)) := by
  refine ps_imp (ps_asg (pe_tup ha) (pg_tup hc hg hn hst) hs hw h1) fun D σ H ⟨B, s, G, R, o, e1, k⟩ => ?_
  obtain ⟨xs, s', h1, h2, rfl⟩ := cPar_some e1
  refine ⟨B, s, G, R, xs, s', h1, fun vs G1 H1 R1 gg hh r => ?_⟩
  have hl : vs.length = is.length := by rw [← r.length]; exact h2
  refine ⟨lim_le (by rw [hl]; exact hz), fun p hp => ⟨p, vs, rfl, SqT.of upd_same, hl, gns_set hl ?_⟩⟩
  have R2 := R1.upd_free (p := p) (o := .tup vs) (R1.munone hp) (R1.h0none hp) (R1.gnone hp) (R1.apart hp)
  exact k _ G1 _ (R2.setXs (is := is) (Pcs.upd hp r)) gg
end
end DL


set_option Elab.async false
set_option linter.all false
set_option maxRecDepth 100000
set_option maxHeartbeats 1000000
namespace DL
open PySem L2 PySem.Spec PyProof.Rows
open Evl (Ex)

/-! ### enumerate(a tuple) -/
set_option maxHeartbeats 1000000 in
theorem enum_new1 {v : Value} {o : Obj} {H : Heap → Prop} (B : Begins v o H) :
    Meets (Builtin.«enumerate.__new__» ⟨[.type "enumerate", v], []⟩) (fun _ R s => H s.heap ∧
      R (.ok (.ret (.ref (s.heap.push o).objs.size))) { s with heap := (s.heap.push o).push { cls := .type "enumerate", data := .fields #[.none, .bool false, .ref s.heap.objs.size, rawInt 0, .none, .none] } }) :=
  .of_wp fun prog w A R s h => by
    obtain ⟨hp, g, d, tk, os⟩ := s
    obtain ⟨h1, h⟩ := h
    have hsub := sub_enumerate
    have q1 : ∀ {A' : Around} {E : Value → Shared → Prop} {Q : Value → Shared → Prop}, Q (.ref hp.objs.size) ⟨hp.push o, g, d, tk, os⟩ → wpAny (model prog w) A' (pyIter v) Q E ⟨hp, g, d, tk, os⟩ :=
      fun q => B.iter prog w _ _ ⟨hp, g, d, tk, os⟩ _ h1 q
    wp_walk using q1
    refine wpAny_stack_any fun st => wpAny_pure ?_
    split
    · rename_i c _ _ _ _ _
      cases (c == Value.type "enumerate") <;> (wp_walk using q1; exact ⟨_, rfl, h⟩)
    · wp_walk using q1
      exact ⟨_, rfl, h⟩
section
variable {prog : Program} {w : World} {A : Around} {E : Value → Shared → Prop} {s : Shared}
theorem enum_tup {t : Addr} {its : Array Value} {Q : Value → Shared → Prop} (ht : s.heap.IsTuple t its)
    (h : ∀ h', IsEnum h' (s.heap.objs.size + 1) s.heap.objs.size 0 .none → h'.IsTupleIter s.heap.objs.size t 0 → h'.objs.size = s.heap.objs.size + 2 →
      (∀ b o, s.heap.get? b = some o → h'.get? b = some o) → Q (.ref (s.heap.objs.size + 1)) { s with heap := h' }) :
    wpAny (model prog w) A (call (.type "enumerate") [.ref t]) Q E s := by
  refine callType_new F.called_enumerate (by decide) (F.typeCall_enumerate_1 _) (F.newCall_enumerate_1 _) (fun obj => F.args_object_init_2 obj _) F.entry_enumerate_new
    (enum_new1 (begins_tuple t its)) ⟨ht, ?_⟩
  have hz : (s.heap.push { cls := .type "tuple_iterator", data := .fields #[.ref t, .int 0 0] }).objs.size = s.heap.objs.size + 1 := Heap.size_push ..
  show _ ∧ _
  rw [hz]
  have he := Heap.get?_push_size (s.heap.push { cls := .type "tuple_iterator", data := .fields #[.ref t, .int 0 0] }) (o := { cls := .type "enumerate", data := .fields #[.none, .bool false, .ref s.heap.objs.size, rawInt 0, .none, .none] }) rfl
  rw [hz] at he
  exact ⟨⟨_, he, rfl⟩, h _ he ⟨_, Heap.get?_push_of_some _ (Heap.get?_push_size _ rfl), rfl, rfl⟩ (by rw [Heap.size_push, hz]) fun b o x => Heap.get?_push_of_some _ (Heap.get?_push_of_some _ x)⟩
end
/-- the tuple at a, each item in a new pair -/
def Iet (K : PySem.W.Frag) (a : Addr) : It :=
  ⟨fun i H => ∃ (xs : List V) (x : V), SqT K H a xs ∧ xs[i]? = some x, fun i H v H' => ∃ T x, v = .ref T ∧ H T = none ∧ H' = upd H T (.tup [.int (i : Nat), x]) ∧ ∀ xs, SqT K H a xs → xs[i]? = some x, fun i H => ∃ xs : List V, SqT K H a xs ∧ xs.length = i⟩
theorem turn_enumT {P : Program} {w : World} {K : PySem.W.Frag} {elts : List Expr} {kk : Nat} {tpos : Pos} (a e it : Addr) :
    Turn P w K (.Tuple elts kk tpos) (Iet K a) [e, it] e (fun i h => (∃ old, IsEnum h e it ((i : Nat) : Int) old) ∧ h.IsTupleIter it a i ∧ e ≠ it ∧ e ≠ a ∧ a ≠ it) where
  mem := by simp
  obj := fun i h ⟨⟨old, he⟩, ⟨o, ho, _, hd⟩, _⟩ b hb => by
    rcases (show b = e ∨ b = it by simpa using hb) with z | z
    · exact z ▸ ⟨_, he, fun v q => nomatch q⟩
    · exact z ▸ ⟨o, ho, fun v q => by rw [hd] at q; cases q⟩
  keep := fun i h h' ⟨⟨old, he⟩, hi, hne⟩ k => ⟨⟨old, k e (by simp) _ he⟩, hi.at fun o q => k it (by simp) o q, hne⟩
  item := by
    intro X hP hw hK hc i pins s σ H E I hf st hg
    subst hP hw hK
    obtain ⟨⟨old, he⟩, hit, hne, hna, hai⟩ := st
    obtain ⟨xs, x, hq, hx⟩ := hg
    obtain ⟨its, rv, p, hz⟩ := I.tuple hq
    obtain ⟨u, hu, ru⟩ := rv.get hx
    have hel : e < s.heap.objs.size := Heap.lt_size he
    have hil : it < s.heap.objs.size := by obtain ⟨_, q, _⟩ := hit; exact Heap.lt_size q
    have lt_of : i < its.toArray.size := by
      have := (List.getElem?_eq_some_iff.mp hu).1
      simpa using this
    refine wpAny_pyNext_enum_itemD (Draws.tuple (show X.A.in1.handled = none from I.ok.hd hc) it a hai its.toArray) he ⟨hit, show s.heap.IsTuple a its.toArray from p⟩ lt_of hne (by simp [hne, hna]) fun y h' tk hy ho hst hT hsz hk => ?_
    have ey : y = u := by
      have : its[i]? = some y := by simpa using hy
      rw [hu] at this
      exact (Option.some.inj this).symm
    subst ey
    refine ⟨_, rfl, wpAny_letOwnedTupleGo_enum (s := { s with heap := h', toks := tk + 1 }) ho fun h'' he' sb => ?_⟩
    have hT2 : h''.get? s.heap.objs.size = some { cls := .type "tuple", data := .seq #[.int i tk, y] } := (sb.2 _ (Nat.ne_of_gt hel)).trans hT
    have new : ObjOk X.prog X.w (upd H s.heap.objs.size (.tup [.int (i : Nat), x])) h'' s.heap.objs.size (.tup [.int (i : Nat), x]) :=
      ⟨by show 2 ≤ sizeLine; decide, [.int i tk, y], .cons ⟨_, rfl⟩ (.cons ru .nil), ⟨_, hT2, rfl, _, rfl⟩⟩
    have I1 : Inv X pins σ (upd H s.heap.objs.size (.tup [.int (i : Nat), x])) { s with heap := h'', toks := tk + 1 } :=
      I.turnedNew (ch := [e, it]) (fun b ob hb q => (sb.2 b (fun z => hb (by simp [z]))).trans (hk b ob (fun z => hb (by simp [z])) (fun z => hb (by simp [z])) q)) hf (Nat.le_refl _) new
    refine ⟨.ref s.heap.objs.size, _, I1, rfl, ⟨_, x, rfl, I.hok.fresh (Nat.le_refl _), rfl, fun ys hy => by rw [I.tuple_inj hy hq]; exact hx⟩, ⟨⟨y, ?_⟩, hst.1.at fun o q => (sb.2 it (Ne.symm hne)).trans q, hne, hna, hai⟩, fun b hb => ?_⟩
    · rw [show ((i + 1 : Nat) : Int) = (i : Int) + 1 by omega]
      exact he'
    · have hb' : b < s.heap.objs.size := by
        rcases (show b = e ∨ b = it by simpa using hb) with z | z
        · exact z ▸ hel
        · exact z ▸ hil
      rw [upd_ne (Nat.ne_of_lt hb')]
      exact (hf b hb).1
  done := by
    intro X hP hw hK hc i pins s σ H E I hf st hg
    subst hP hw hK
    obtain ⟨⟨old, he⟩, hit, hne, hna, hai⟩ := st
    obtain ⟨xs, hq, hx⟩ := hg
    obtain ⟨its, rv, p, hz⟩ := I.tuple hq
    obtain ⟨f0, f1, f2, f3, f4, f5⟩ := hf it (by simp)
    have hl := rv.length
    refine wpAny_pyNext_enum_endD (n := its.toArray.size) (Draws.tuple (show X.A.in1.handled = none from I.ok.hd hc) it a hai its.toArray) he ⟨by rw [List.size_toArray, ← hl, hx]; exact hit, show s.heap.IsTuple a its.toArray from p⟩ fun h' eb => ?_
    exact ⟨rfl, I.turned (t' := s.toks) (fun b o hb q => eb b o hb q) f0 f1 f3 f4 f5⟩
  self := fun A i s Q E ⟨⟨_, he⟩, _⟩ h => wpAny_pyIter_enum he h
section
variable {X : Cx} {cls : ClsT} {e : Expr} {ta : TA} {q : M (List D)} {p1 pos tpos : Pos} {elts : List Expr} {kk : Nat} {m : Bool}
def iEnumT (K : PySem.W.Frag) (ta : TA) : TI := fun σ H R => ta σ H fun vs H1 => ∃ a xs, vs = [.ref a] ∧ SqT K H1 a xs ∧ H1 a ≠ none ∧ R (Iet K a) H1
theorem pi_enumT (hg : Gl X "enumerate") (hm : X.mg "enumerate" = none) (ha : PA X [e] ta) (hs : starEach [e] X.env = [(false, eval e X.env)] := by rfl) : PI X (.Tuple elts kk tpos) (.Call (.Name "enumerate" p1) [e] [] pos) (iEnumT X.K ta) := by
  refine ⟨fun pins s σ H R I h => ?_⟩
  refine Call_ (ld_blt I hg hm boot_enumerate (PyProof.Rows.callWith_type1 (thn (ha.run pos pins s σ H _ I h) fun us s1 ⟨vs, H1, I1, r1, a, xs, ex, hq, hn, q⟩ => ?_) hs rfl))
  subst ex
  cases r1 with
  | cons r rr =>
    cases rr
    cases r
    obtain ⟨its, rv, p', hz⟩ := I1.tuple hq
    have hal : a < s1.heap.objs.size := by obtain ⟨_, z, _⟩ := p'; exact Heap.lt_size z
    refine enum_tup (its := its.toArray) p' fun h' he hit hsz hk => wpAny_pyIter_enum he ?_
    have I2 : Inv X pins σ H1 { s1 with heap := h' } := I1.kept (t' := s1.toks) hk
    refine ⟨s1.heap.objs.size + 1, [s1.heap.objs.size + 1, s1.heap.objs.size], _, _, H1, rfl, I2, turn_enumT a (s1.heap.objs.size + 1) s1.heap.objs.size, ⟨⟨.none, he⟩, hit, Nat.succ_ne_self _, Nat.ne_of_gt (Nat.lt_succ_of_lt hal), Nat.ne_of_lt hal⟩, fun b hb => ?_, q⟩
    have hle : s1.heap.objs.size ≤ b := by
      rcases (show b = s1.heap.objs.size + 1 ∨ b = s1.heap.objs.size by simpa using hb) with z | z
      · exact z ▸ Nat.le_succ _
      · exact z ▸ Nat.le_refl _
    exact I1.fpOk hle (I1.hok.fresh hle)
theorem iet_ok {Γ : Ctx} {G0 Z : Hp} {ds : List D} {a : Addr} {vs : List V} (ha : G0 a = some (.tup vs)) (hr : RepL Γ G0 ds vs) : ItD Γ G0 Z (Iet Γ.K a) (enumD ds) where
  stop := fun H z g => ⟨vs, SqT.of (g _ _ ha), by rw [enumD_len, hr.length]⟩
  go := fun i H hi z g => by
    have hi' : i < vs.length := by rw [← hr.length]; rwa [enumD_len] at hi
    exact ⟨vs, vs[i], SqT.of (g _ _ ha), by simp [hi']⟩
  yld := fun i d x H H' G hd z g gh y => by
    obtain ⟨T, x', rfl, hT, rfl, y⟩ := y
    obtain ⟨d', hd', rfl⟩ := enumD_get hd
    obtain ⟨v, hv, r⟩ := hr.get hd'
    have q := y vs (SqT.of (gh _ _ (g _ _ ha)))
    rw [hv] at q
    cases q
    refine ⟨upd G T (.tup [.int (i : Nat), x']), Ex.new (gnone_of gh hT), upd_sub gh, Ex.new hT, fun b hb => ?_, ?_⟩
    · rw [upd_ne]
      rintro rfl
      exact hb hT
    · simp only [Rep]
      exact ⟨T, _, rfl, upd_same, repL_cons (by simp only [Rep]) (repL_cons ((r.mono g).mono (Ex.new (gnone_of gh hT))) repL_nil)⟩
def enLT : List D → Option (List D)
  | [.lst xs] => some (enumD xs)
  | [.tup xs] => some (enumD xs)
  | _ => none
/-- enumerate(a list or a tuple) -/
theorem i_enum (hm : X.mg "enumerate" = none) (ha : PA X [e] (tA (Γx X cls) m q)) (hg : Gl X "enumerate" := by rfl) (hs : starEach [e] X.env = [(false, eval e X.env)] := by rfl) : PI X (.Tuple elts kk tpos) (.Call (.Name "enumerate" p1) [e] [] pos) (tI (Γx X cls) m (eItL enLT q)) :=
  pi_imp (pi_or (pi_enum hg hm ha hs) (pi_enumT hg hm ha hs)) fun σ H R' ⟨B, s, G, R, ds, s', e1, k⟩ => by
    obtain ⟨d, h1, h2⟩ := eItL_some e1
    unfold enLT at h2
    split at h2
    · cases h2
      refine .inl ⟨B, s, G, R, _, s', h1, fun vs G1 H1 R1 gg hh r => ?_⟩
      obtain ⟨v, rfl, r1⟩ := repsZ1 r
      obtain ⟨a, vs, rfl, ha, hr⟩ := repZ_lstZ r1
      exact ⟨a, vs, rfl, SqL.of (ha H1 (zone_ex R1) R1.gh), k _ G1 H1 R1 gg hh (ite_ok ha hr)⟩
    · cases h2
      refine .inr ⟨B, s, G, R, _, s', h1, fun vs G1 H1 R1 gg hh r => ?_⟩
      obtain ⟨v, rfl, r1⟩ := repsZ1 r
      obtain ⟨a, vs, rfl, ha, hr⟩ := r1.tup (Ex.refl G1)
      exact ⟨a, vs, rfl, SqT.of (R1.gh _ _ ha), by rw [R1.gh _ _ ha]; simp, k _ G1 H1 R1 gg hh (iet_ok ha hr)⟩
    · cases h2
end
end DL


set_option Elab.async false
set_option linter.all false
set_option maxRecDepth 100000
set_option maxHeartbeats 4000000
namespace PySem
namespace TupSort
open PySem.Spec PyProof.Rows
section
variable {prog : Program} {w : World} {A : Around} {E : Value → Shared → Prop} {s : Shared}
theorem gather {t : Addr} {us : List Value} {Q : List Value → Shared → Prop} (ht : s.heap.IsTuple t us.toArray) (hz : us.length ≤ sizeLine)
    (fin : Q us { s with heap := (s.heap.push (seqObj "list" #[] 0)).update s.heap.objs.size (Obj.mapSeq (· ++ us.toArray)) }) : wpAny (model prog w) A (collect (.ref t)) Q E s := by
  obtain ⟨ob, hob, hcl, k, hdt⟩ := id ht
  unfold collect
  refine wpAny_bind (wpAny_runValue (codeAny_builtin entry_proto_collect' (show wpAny _ _ (do again (.builtin "list.__iadd__" ⟨[← newList [], .ref t], []⟩)) _ _ s from ?_)))
  refine wpAny_bind (wpAny_newList (wpAny_pure ⟨Code.quiet_builtin _ (by decide +kernel), codeAny_builtin entry_list_iadd' (show wpAny _ _ (Builtin.List.listExtendWith (.ref s.heap.objs.size) (.ref t) (.ref s.heap.objs.size)) _ _ { s with heap := s.heap.push (seqObj "list" #[] 0) } from ?_)⟩))
  unfold Builtin.List.listExtendWith
  have hob' : (s.heap.push (seqObj "list" #[] 0)).get? t = some ob := Heap.get?_push_of_some _ hob
  refine wpAny_bind (wpAny_typeOf (T := "tuple") ⟨ob, hob', hcl⟩ ?_)
  rw [if_pos (by rw [show (Value.type "tuple" == Value.type "tuple") = true from rfl]; simp)]
  refine wpAny_bind (listItems_at hob' hdt (wpAny_bind (listItems_at (xs := #[]) (n := 0) (Heap.get?_push_size _ rfl) rfl ?_)))
  rw [if_neg (by simp)]
  refine wpAny_bind (listUpdate_at (xs := #[]) (n := 0) (Heap.get?_push_size _ rfl) rfl (wpAny_pure ?_) (Nat.zero_le _) (by show (#[] ++ us.toArray).size ≤ sizeLine + 1; simp only [Array.size_append, List.size_toArray, List.length_nil]; omega))
  refine (show wpAny (model prog w) A (load s.heap.objs.size >>= _) Q E { s with heap := (s.heap.push (seqObj "list" #[] 0)).update s.heap.objs.size (Obj.mapSeq (· ++ us.toArray)) } from wpAny_bind (wpAny_load (get?_update_seq (Heap.get?_push_size _ rfl) _) ?_))
  refine (show wpAny _ _ (pure ((#[] : Array Value) ++ us.toArray).toList) Q E _ from ?_)
  rw [show ((#[] : Array Value) ++ us.toArray).toList = us by simp]
  exact wpAny_pure fin
theorem sorted_tup {t : Addr} {us : List Value} {lt : Value → Value → Bool} {Q : Value → Shared → Prop} (O : SrtO.Swo lt) (ht : s.heap.IsTuple t us.toArray) (hz : us.length ≤ sizeLine)
    (so : 2 ≤ us.length → ∀ (h₁ : Heap) (a : Addr), h₁.get? a = some (seqObj "list" us.toArray 0) → (∀ b o, s.heap.get? b = some o → b ≠ a ∧ h₁.get? b = some o) → SrtO.SortableO prog w A.in1.in1 { s with heap := h₁ } a us lt)
    (fin : ∀ ws : List Value, SrtO.Srtd lt ws → SrtO.Stb lt ws us → Q (.ref (s.heap.objs.size + 1)) { s with heap := sortedAll s.heap us ws.toArray }) : wpAny (model prog w) A (call (.builtin "sorted") [.ref t]) Q E s := by
  refine Calls.call_function_entry kind_sorted plain_sorted entry_sorted (args_sorted1 _) ?_
  unfold Builtin.«sorted»
  refine wpAny_bind (m := checkCount "sorted" 1 1 _) (wpAny_pure (wpAny_bind (gather ht hz (wpAny_bind (wpAny_newList ?_ hz)))))
  have e1 : ((s.heap.push (seqObj "list" #[] 0)).update s.heap.objs.size (Obj.mapSeq (· ++ us.toArray))).objs.size = s.heap.objs.size + 1 := by rw [Heap.size_update, size_push']
  have hL : (((s.heap.push (seqObj "list" #[] 0)).update s.heap.objs.size (Obj.mapSeq (· ++ us.toArray))).push (seqObj "list" us.toArray 0)).get? (s.heap.objs.size + 1) = some (seqObj "list" us.toArray 0) := e1 ▸ Heap.get?_push_size _ rfl
  have kp : ∀ b o, s.heap.get? b = some o → b ≠ s.heap.objs.size + 1 ∧ (((s.heap.push (seqObj "list" #[] 0)).update s.heap.objs.size (Obj.mapSeq (· ++ us.toArray))).push (seqObj "list" us.toArray 0)).get? b = some o := fun b o z => by
    have lt0 : b < s.heap.objs.size := Heap.lt_size z
    exact ⟨Nat.ne_of_lt (Nat.lt_succ_of_lt lt0), Heap.get?_push_of_some _ (by rw [Heap.get?_update_ne _ _ _ _ (Nat.ne_of_lt lt0)]; exact Heap.get?_push_of_some _ z)⟩
  refine (show wpAny _ _ _ _ _ { s with heap := ((s.heap.push (seqObj "list" #[] 0)).update s.heap.objs.size (Obj.mapSeq (· ++ us.toArray))).push (seqObj "list" us.toArray 0) } from ?_)
  rw [e1]
  exact wpAny_bind (wpAny_holding (wpAny_call_entry slot_list_sort ⟨_, hL, rfl⟩ entry_list_sort (SrtO.list_sort_ord O hL hz (fun h2 => so h2 _ _ hL kp) fun ws h1 h2 => ⟨_, rfl, wpAny_pure ⟨_, rfl, fin ws h1 h2⟩⟩) (args_list_sort _)))
end
end TupSort
end PySem

namespace DL
open PySem L2 PySem.Spec PyProof.Rows
open Evl (Ex)
/-- sorted(a tuple of ints) -/
def rSortedTI (K : PySem.W.Frag) : List V → Hp → VK → Prop := fun vs H Q => ∃ (a : Addr) (ns : List Int), vs = [V.ref a] ∧ SqT K H a (ns.map V.int) ∧ ∀ (ms : List Int) (p : Addr), ms.Perm ns → ms.Pairwise (· ≤ ·) → H p = none → Q (.ref p) (upd H p (.lst (ms.map V.int)))
theorem cr_sortedTI {X : Cx} : CallR X (.builtin "sorted") (rSortedTI X.K) := fun pins s σ H vs us Q I r ⟨a, ns, e, hs, q⟩ => by
  subst e
  obtain ⟨its, rv, hl, hz⟩ := I.tuple hs
  rw [Vals.ref1 r]
  have hi := rv.ints
  refine TupSort.sorted_tup SrtO.swo_int (show s.heap.IsTuple a its.toArray from hl) (by rw [← rv.length]; exact hz) (fun h2 h₁ a' _ _ => SrtO.ints_sortable hi h2) fun ws h1 h2 => ?_
  obtain ⟨k1, k2, k3⟩ := SrtO.ints_out hi h1 h2
  obtain ⟨ep, he'⟩ := PyProof.Rows.sortedAll_at s.heap its ws.toArray
  rw [List.length_map] at hz
  exact ⟨.ref _, upd H (s.heap.objs.size + 1) (.lst ((ws.map SrtO.iv).map V.int)), I.laid (t' := s.toks) (fun _ _ => PyProof.Rows.sortedAll_old) (Nat.le_succ _) ⟨by rw [List.length_map, k2.length_eq]; exact hz, ws, ep, vals_of_ints k1, he'⟩, rfl, q _ _ k2 k3 (I.hok.fresh (Nat.le_succ _))⟩
def rSortedA (K : PySem.W.Frag) : List V → Hp → VK → Prop := fun xs H Q => rSortedI K xs H Q ∨ rSortedTI K xs H Q
theorem call_sortedA {X : Cx} : CallR X (.builtin "sorted") (rSortedA X.K) := cr_sortedI.or cr_sortedTI
def gSortedA : List D → Option D
  | [.lst xs] => (intsOf xs).map fun ns => .lst ((isort ns).map .int)
  | [.tup xs] => (intsOf xs).map fun ns => .lst ((isort ns).map .int)
  | _ => none
theorem cf_sortedA {Γ : Ctx} : CbF Γ (rSortedA Γ.K) gSortedA := fun G Z H xs ds z Q gh zh r hg k => by
  unfold gSortedA at hg
  split at hg
  · exact .inl (cf_sorted G Z H xs _ z Q gh zh r hg k)
  · obtain ⟨ns, e, rfl⟩ := map_some hg
    have e := intsOf_some e
    subst e
    obtain ⟨v, rfl, r1⟩ := repsZ1 r
    obtain ⟨a, vs, rfl, ha, hr⟩ := r1.tup gh
    have e := hr.ints
    subst e
    refine .inr ⟨a, ns, rfl, SqT.of ha, fun ms p hp hs hn => ?_⟩
    rw [isort_unique hp hs]
    exact k p _ hn (show RepL Γ G _ _ from repL_ints)
  · cases hg
end DL


set_option Elab.async false
set_option linter.all false
set_option maxRecDepth 100000
set_option maxHeartbeats 4000000
namespace DL
open PySem L2 PySem.Spec PyProof.Rows
open Evl (Ex)

/-! ### len(set(..)) of ints -/
def nub : List Int → List Int
  | [] => []
  | x :: r => if x ∈ r then nub r else x :: nub r
theorem nub_mem : ∀ {l : List Int} {k : Int}, k ∈ nub l ↔ k ∈ l
  | [], k => Iff.rfl
  | x :: r, k => by
    unfold nub
    split
    · rename_i h
      rw [nub_mem, List.mem_cons]
      exact ⟨.inr, fun z => z.elim (fun e => e ▸ h) id⟩
    · rw [List.mem_cons, List.mem_cons, nub_mem]
theorem nub_nodup : ∀ (l : List Int), (nub l).Nodup
  | [] => List.nodup_nil
  | x :: r => by
    unfold nub
    split
    · exact nub_nodup r
    · rename_i h
      exact List.nodup_cons.mpr ⟨fun z => h (nub_mem.mp z), nub_nodup r⟩
theorem nub_le : ∀ (l : List Int), (nub l).length ≤ l.length
  | [] => Nat.le_refl _
  | x :: r => by
    unfold nub
    have := nub_le r
    split <;> simp only [List.length_cons] <;> omega
theorem nub_of_nodup : ∀ {l : List Int}, l.Nodup → nub l = l
  | [], _ => rfl
  | x :: r, h => by
    have h := List.nodup_cons.mp h
    unfold nub
    rw [if_neg h.1, nub_of_nodup h.2]
theorem len_nub {l m : List Int} (h : m.Nodup) (e : ∀ k, k ∈ m ↔ k ∈ l) : m.length = (nub l).length :=
  ((List.perm_ext_iff_of_nodup h (nub_nodup l)).mpr fun k => by rw [e, nub_mem]).length_eq
def gLenSet : D → Option D
  | .tup xs => (intsOf xs).bind fun ns => if ns.length ≤ 1000 then some (.int ((nub ns).length : Nat)) else none
  | _ => none
section
variable {X : Cx} {cls : ClsT} {e : Expr} {f : M D} {p1 p2 p3 pos : Pos}
theorem v_lenSet (hc : X.calm = true) (hm : X.mg "len" = none) (hm2 : X.mg "set" = none) (he : PE X e (tB (Γx X cls) true f)) (hg : Gl X "len" := by rfl) (hg2 : Gl X "set" := by rfl) (na : starEach [e] X.env = (false, eval e X.env) :: starEach [] X.env := by rfl) :
    PE X (.Call (.Name "len" p1) [.Call (.Name "set" p2) [e] [] p3] [] pos) (tV (Γx X cls) (eUn gLenSet f)) := ⟨fun pins s σ H Q I ⟨B, s0, G, R, d, s', e1, k⟩ => by
  obtain ⟨d1, h1, h2⟩ := eUn_some e1
  cases d1 with
  | tup xs =>
    simp only [gLenSet] at h2
    cases e : intsOf xs with
    | none => rw [e] at h2; cases h2
    | some ns =>
      rw [e] at h2
      simp only [Option.bind_some] at h2
      split at h2
      · rename_i hl
        cases h2
        have e := intsOf_some e
        subst e
        refine Call_ (ld_blt I hg hm PySem.boot_len (PyProof.Rows.callWith_builtin1 (PyProof.Rows.args_cons ?_ rfl) rfl rfl))
        refine Call_ (ld_blt I hg2 hm2 PyProof.Rows.boot_set (PyProof.Rows.callWith_type1 (PyProof.Rows.args_cons (thn (he.run pins s σ H (fun v H1 => ∃ G1, SRel (Γx X cls) B s' σ G1 H1 ∧ Ex G G1 ∧ HH B.mu H H1 ∧ RepZ (Γx X cls) G1 (zone true B H1) (.tup (ns.map .int)) v) I ⟨B, s0, G, R, _, s', h1, fun v G1 H1 R1 gg hh r => ⟨G1, R1, gg, hh, r⟩⟩) fun u s1 ⟨v, H1, I1, ru, G1, R1, gg, hh, r⟩ => PyProof.Rows.args_nil ?_) na) na rfl))
        obtain ⟨a, vs, rfl, ha, hr⟩ := r.tup R1.gh
        have e := hr.ints
        subst e
        cases ru
        obtain ⟨its, rv, pt, hz⟩ := I1.tuple (SqT.of ha)
        refine call_set_tupI ns (I1.ok.hd hc) (show s1.heap.IsTuple a its.toArray from pt) (ints_of_vals rv) (by unfold scanBound; omega) fun h' tk c R2 hcn kk => PyProof.Rows.args_nil ?_
        obtain ⟨o, es, ep, t, ho, hex, hdt, g, nd, hm2, hb, hf, hn, hr, hl2⟩ := R2
        have en : es.size = (nub ns).length := by
          rw [← len_nub nd fun j => by rw [← hm2 j, decide_eq_true_eq], List.length_map, Array.length_toList]
        have I2 : L2.Inv X pins σ H1 { s1 with heap := h', toks := tk } := I1.kept fun b o e => kk b o e
        have hl3 := nub_le ns
        refine call_len_set ho hex hdt hf (by rw [en]; omega) ⟨.int ((nub ns).length : Nat), H1, I2.tok _, ⟨_, by rw [en]⟩, ?_⟩
        exact k _ G1 H1 R1 gg hh (by simp only [Rep])
      · cases h2
  | _ => cases h2⟩
end

/-! ### a tuple repeated once -/
theorem tup_mul1 (l : Addr) (items : Array Value) (n : Nat) (dd : Option Addr) (sl : Array (Option Value)) (u : Tok) :
    Meets (Builtin.«tuple.__mul__» ⟨[.ref l, .int 1 u], []⟩) (fun _ R s => s.heap.get? l = some { cls := .type "tuple", dict := dd, data := .seq items n, slots := sl } ∧ R (.ok (.ret (Value.ref l))) s) :=
  .of_wp fun prog w A R s h => by
    obtain ⟨hp, g, d, tk, os⟩ := s
    obtain ⟨hl, h⟩ := h
    have f1 := AutoSeq1.idx_int
    have f2 := AutoSeq1.sub_tuple_tuple
    have c0 : ¬ ((decide ((1 : Int) < -(2 ^ 63)) || decide ((1 : Int) ≥ 2 ^ 63)) = true) := by decide
    have c1 : (items.isEmpty || (1 : Int) == 1) = true := by simp
    wp_walk using wpAny_loadPart' hl
    exact ⟨_, rfl, h⟩
def rRepT1 (K : PySem.W.Frag) : R2 := fun x y H Q => ∃ l xs, x = .ref l ∧ y = .int 1 ∧ SqT K H l xs ∧ Q (.ref l) H
section
variable {X : Cx}
theorem op_repT1 : OpR X (binaryOp .Mult) (rRepT1 X.K) := fun pins s σ H x y v u Q I rx ry ⟨l, xs, e1, e2, hT, q⟩ => by
  subst e1 e2
  cases rx
  obtain ⟨t, rfl⟩ := ry
  obtain ⟨its, r, ⟨⟨cls, dd, data, sl⟩, ho, hc, n, hd⟩, hs⟩ := I.tuple hT
  simp only at hc hd
  subst hc hd
  exact wpAny_binaryOp_repeat_ref (T := "tuple") (U := "int") (by decide) ⟨_, ho, rfl⟩ (fun s' => typeIs_int s' 1 t) noFill_tuple_mul F.fills_int_mul F.slot_int_rmul repeat_tuple F.slot_int_index.lookup
    (call_meets F.slot_int_rmul (typeIs_int s 1 t) F.entry_int_rmul (F.args_int_rmul_2 _ _) (int_rmul_tuple 1 t l its.toArray n dd sl) ⟨ho, rfl, ⟨_, ho, rfl⟩, call_meets F.slot_tuple_mul ⟨_, ho, rfl⟩ F.entry_tuple_mul (F.args_tuple_mul_2 _ _) (tup_mul1 l its.toArray n dd sl t) ⟨ho, .ref l, H, I, rfl, q⟩⟩)
end
def rRepTA (K : PySem.W.Frag) : R2 := fun x y H Q => rRepT K x y H Q ∨ rRepT1 K x y H Q
theorem op_repTA {X : Cx} : OpR X (binaryOp .Mult) (rRepTA X.K) := op_repT.or op_repT1
def gRepT (x y : D) : Option D := match x, y with
  | .tup xs, .int k => if xs ≠ [] ∧ 1 ≤ k ∧ k ≤ 1000 ∧ xs.length ≤ 1000 then some (.tup (List.replicate k.toNat xs).flatten) else none
  | _, _ => none
theorem ne_nil_of {Γ : Ctx} {G : Hp} {ds : List D} {vs : List V} (h : RepL Γ G ds vs) (n : ds ≠ []) : vs ≠ [] := fun e => n (List.eq_nil_of_length_eq_zero (by rw [h.length, e]; rfl))
theorem od_repT {Γ : Ctx} : OpD Γ (rRepTA Γ.K) gRepT := fun G Z H x y d e z Q gh zh rx ry hg k => by
  unfold gRepT at hg
  split at hg
  · rename_i xs n
    split at hg
    · rename_i hn
      cases hg
      have e2 := ry.int
      subst e2
      obtain ⟨n1, n2, n3, n4⟩ := hn
      obtain ⟨a, vs, rfl, ha, hr⟩ := rx.tup (Ex.refl G)
      by_cases h1 : n = 1
      · subst h1
        refine .inr ⟨a, vs, rfl, rfl, SqT.of (gh _ _ ha), k _ G H (Ex.refl G) gh (Ex.refl H) (fun _ _ => rfl) ?_⟩
        have e : (List.replicate (1 : Int).toNat xs).flatten = xs := by simp
        rw [e]
        simp only [Rep]
        exact ⟨a, vs, rfl, ha, hr⟩
      · refine .inl ⟨a, n, vs, rfl, rfl, SqT.of (gh _ _ ha), ne_nil_of hr n1, by omega, n3, by rw [← hr.length]; exact n4, fun p hp => k_new gh hp (fun g => ?_) k⟩
        simp only [Rep]
        exact ⟨p, _, rfl, upd_same, RepL.mono g _ (hr.rep n.toNat)⟩
    · cases hg
  · cases hg
end DL


set_option Elab.async false
set_option linter.all false
set_option maxRecDepth 100000
set_option maxHeartbeats 4000000
namespace DL
open PySem L2 PySem.Spec PyProof.Rows
open Evl (Ex)

/-! ### tables on data -/
section
variable {κ : Type} [DecidableEq κ]
def valD : List κ → List D → κ → Option D
  | k' :: ks, x :: xs, k => if k' = k then some x else valD ks xs k
  | _, _, _ => none
def replD : List κ → List D → κ → D → List D
  | k' :: ks, x :: xs, k, d => (if k' = k then d else x) :: replD ks xs k d
  | _, xs, _, _ => xs
def putD (ks : List κ) (xs : List D) (k : κ) (d : D) : List κ × List D := if k ∈ ks then (ks, replD ks xs k d) else (ks ++ [k], xs ++ [d])
variable {Γ : Ctx} {G : Hp}
theorem valD_some : ∀ {ws : List (κ × V)} {ks : List κ} {xs : List D} {k : κ}, ws.map (·.1) = ks → RepL Γ G xs (ws.map (·.2)) → (∀ d, valD ks xs k = some d → ∃ v, valV ws k = some v ∧ Rep Γ G d v) ∧ (valD ks xs k = none → valV ws k = none)
  | [], _, xs, k, h1, h2 => by
    subst h1
    exact ⟨fun d h => by simp [valD] at h, fun _ => valV_nil⟩
  | w :: ws, _, xs, k, h1, h2 => by
    subst h1
    cases xs with
    | nil => have := h2.length; simp at this
    | cons x xs =>
      obtain ⟨v, r, e, r1, r2⟩ := h2.cons_inv
      simp only [List.map_cons] at e
      injection e with e1 e2
      subst e1 e2
      obtain ⟨i1, i2⟩ := valD_some (k := k) rfl r2
      simp only [List.map_cons, valD]
      by_cases hk : w.1 = k
      · rw [if_pos hk, valV_pos hk]
        exact ⟨fun d h => by cases h; exact ⟨_, rfl, r1⟩, fun h => by cases h⟩
      · rw [if_neg hk, valV_neg hk]
        exact ⟨i1, i2⟩
theorem replD_rep : ∀ {ws : List (κ × V)} {xs : List D} {k : κ} {d : D} {v : V}, RepL Γ G xs (ws.map (·.2)) → Rep Γ G d v → RepL Γ G (replD (ws.map (·.1)) xs k d) ((ws.map fun kv => if kv.1 = k then (kv.1, v) else kv).map (·.2))
  | [], xs, k, d, v, h, r => by simpa [replD] using h
  | w :: ws, xs, k, d, v, h, r => by
    cases xs with
    | nil => have := h.length; simp at this
    | cons x xs =>
      obtain ⟨v', r', e, r1, r2⟩ := h.cons_inv
      simp only [List.map_cons] at e
      injection e with e1 e2
      subst e1 e2
      simp only [List.map_cons, replD]
      refine repL_cons ?_ (replD_rep r2 r)
      by_cases hk : w.1 = k
      · rw [if_pos hk, if_pos hk]; exact r
      · rw [if_neg hk, if_neg hk]; exact r1
theorem putD_rep {ws : List (κ × V)} {ks : List κ} {xs : List D} {k : κ} {d : D} {v : V} (h1 : ws.map (·.1) = ks) (h2 : RepL Γ G xs (ws.map (·.2))) (r : Rep Γ G d v) : (putK ws k v).map (·.1) = (putD ks xs k d).1 ∧ RepL Γ G (putD ks xs k d).2 ((putK ws k v).map (·.2)) := by
  subst h1
  have e : ((ws.any fun kv => decide (kv.1 = k)) = true) ↔ k ∈ ws.map (·.1) := by
    rw [List.any_eq_true, List.mem_map]
    exact ⟨fun ⟨x, hx, ex⟩ => ⟨x, hx, by simpa using ex⟩, fun ⟨x, hx, ex⟩ => ⟨x, hx, by simpa using ex⟩⟩
  unfold putK putD
  by_cases hk : k ∈ ws.map (·.1)
  · rw [if_pos (e.mpr hk), if_pos hk]
    refine ⟨?_, replD_rep h2 r⟩
    rw [List.map_map]
    apply List.map_congr_left
    intro x _
    show (if x.1 = k then (x.1, v) else x).1 = x.1
    split <;> rfl
  · rw [if_neg (fun z => hk (e.mp z)), if_neg hk]
    rw [List.map_append, List.map_append]
    exact ⟨rfl, h2.append (repL_cons r repL_nil)⟩
end
/-- ints and texts as keys, tuples of them -/
def keyD : D → Option Key
  | .int i => some (.inl i)
  | .str x => some (.inr x)
  | _ => none
def keysD : List D → Option (List Key)
  | [] => some []
  | d :: r => (keyD d).bind fun k => (keysD r).map fun ks => k :: ks
def tkeyD : D → Option (List Key)
  | .tup ds => keysD ds
  | _ => none
theorem keyD_rep {Γ : Ctx} {G Z : Hp} {d : D} {k : Key} {v : V} (h : keyD d = some k) (r : RepZ Γ G Z d v) : v = kV k := by
  cases d with
  | int i => cases h; exact r.int
  | str x => cases h; exact r.str
  | _ => cases h
theorem keysD_rep {Γ : Ctx} {G : Hp} : ∀ {ds : List D} {ks : List Key} {vs : List V}, keysD ds = some ks → RepL Γ G ds vs → vs = ks.map kV
  | [], ks, vs, h, r => by cases h; exact r.nil_inv
  | d :: ds, ks, vs, h, r => by
    obtain ⟨v, vr, rfl, r1, r2⟩ := r.cons_inv
    unfold keysD at h
    cases e : keyD d with
    | none => rw [e] at h; cases h
    | some k =>
      rw [e] at h
      obtain ⟨ks', h2, rfl⟩ := map_some h
      rw [List.map_cons, ← keysD_rep h2 r2, ← keyD_rep (Z := G) e (.inl r1)]
theorem tkeyD_rep {Γ : Ctx} {G Z H : Hp} {d : D} {k : List Key} {v : V} (gh : Ex G H) (h : tkeyD d = some k) (r : RepZ Γ G Z d v) : ∃ b, v = .ref b ∧ H b = some (.tup (k.map kV)) := by
  cases d with
  | tup ds =>
    obtain ⟨b, vs, rfl, hb, hr⟩ := r.tup gh
    rw [keysD_rep h hr] at hb
    exact ⟨b, rfl, hb⟩
  | _ => cases h
/-- what a dict holds at a key -/
def atD (x y : D) : Option (Option D) := match x with
  | .dK ks xs => (keyD y).map fun k => valD ks xs k
  | .dT ks xs => (tkeyD y).map fun k => valD ks xs k
  | _ => none
theorem atD_get {Γ : Ctx} {G Z H : Hp} {x y : D} {a v : V} {r : Option D} (gh : Ex G H) (zh : Ex Z H) (h : atD x y = some r) (rx : RepZ Γ G Z x a) (ry : RepZ Γ G Z y v) :
    ∃ p o, a = .ref p ∧ DGet H p v o ∧ (∀ d, r = some d → ∃ w, o = some w ∧ Rep Γ G d w) ∧ (r = none → o = none) := by
  cases x with
  | dK ks xs =>
    obtain ⟨k, h1, rfl⟩ := map_some h
    obtain ⟨p, ws, rfl, hp, hk, hr⟩ := rx.dK gh zh
    obtain ⟨i1, i2⟩ := valD_some (k := k) hk hr
    have e := keyD_rep h1 ry
    subst e
    exact ⟨p, _, rfl, DGet.k hp, i1, i2⟩
  | dT ks xs =>
    obtain ⟨k, h1, rfl⟩ := map_some h
    obtain ⟨p, ws, rfl, hp, hk, hr⟩ := rx.dT gh zh
    obtain ⟨i1, i2⟩ := valD_some (k := k) hk hr
    obtain ⟨b, rfl, hb⟩ := tkeyD_rep gh h1 ry
    exact ⟨p, _, rfl, DGet.t hp hb, i1, i2⟩
  | _ => cases h
def gDGet (x y : D) : Option D := (atD x y).bind id
def gDIn (y x : D) : Option D := (atD x y).map fun o => .bl o.isSome
def gDNotIn (y x : D) : Option D := (atD x y).map fun o => .bl (!o.isSome)
section
variable {X : Cx} {cls : ClsT} {a b o i e : Expr} {f h : M D} {pos : Pos} {j : Nat}
theorem units1 {A : Around} (r : Room j A) : A.units + 1 < cLine := by have := r.units; omega
theorem v_dget (hr : Room j X.A) (ho : PE X o (tB (Γx X cls) true f)) (hi : PE X i (tB (Γx X cls) true h)) (hs : NoSl i := by intro _ _; rfl) : PE X (.Subscript o i pos) (tV (Γx X cls) (eOp gDGet f h)) := pe_imp (pe_dget (units1 hr) ho hi hs) fun σ H Q ⟨B, s, G, R, d, s', e1, k⟩ => by
  obtain ⟨d1, s1, d2, h1, h2, h3⟩ := eOp_some e1
  unfold gDGet at h3
  cases e2 : atD d1 d2 with
  | none => rw [e2] at h3; cases h3
  | some r =>
    rw [e2] at h3
    have h3 : r = some d := h3
    refine ⟨B, s, G, R, d1, s1, h1, fun x G1 H1 R1 gg1 hh1 r1 => ⟨B, s1, G1, R1, d2, s', h2, fun y G2 H2 R2 gg2 hh2 r2 => ?_⟩⟩
    obtain ⟨p, ov, e4, g, i1, _⟩ := atD_get R2.gh (zone_ex R2) e2 (r1.mono gg2 (zone_mono hh2)) r2
    obtain ⟨w, rfl, rw'⟩ := i1 d h3
    exact ⟨p, w, e4, g, k w G2 H2 R2 (gg1.trans gg2) (hh1.trans hh2) rw'⟩
theorem t_din {Γ : Ctx} : ∀ σ H Q, tV Γ (eOp gDIn f h) σ H Q → tDIn (tB Γ true f) (tB Γ true h) σ H Q := fun σ H Q ⟨B, s, G, R, d, s', e1, k⟩ => by
  obtain ⟨d1, s1, d2, h1, h2, h3⟩ := eOp_some e1
  obtain ⟨r, e2, rfl⟩ := map_some h3
  refine ⟨B, s, G, R, d1, s1, h1, fun y G1 H1 R1 gg1 hh1 r1 => ⟨B, s1, G1, R1, d2, s', h2, fun x G2 H2 R2 gg2 hh2 r2 => ?_⟩⟩
  obtain ⟨p, ov, e4, g, i1, i2⟩ := atD_get R2.gh (zone_ex R2) e2 r2 (r1.mono gg2 (zone_mono hh2))
  refine ⟨p, ov, e4, g, k _ G2 H2 R2 (gg1.trans gg2) (hh1.trans hh2) ?_⟩
  cases r with
  | none => rw [i2 rfl]; simp only [Rep]; rfl
  | some d => obtain ⟨w, rfl, _⟩ := i1 d rfl; simp only [Rep]; rfl
theorem t_dnotin {Γ : Ctx} : ∀ σ H Q, tV Γ (eOp gDNotIn f h) σ H Q → tDNotIn (tB Γ true f) (tB Γ true h) σ H Q := fun σ H Q ⟨B, s, G, R, d, s', e1, k⟩ => by
  obtain ⟨d1, s1, d2, h1, h2, h3⟩ := eOp_some e1
  obtain ⟨r, e2, rfl⟩ := map_some h3
  refine ⟨B, s, G, R, d1, s1, h1, fun y G1 H1 R1 gg1 hh1 r1 => ⟨B, s1, G1, R1, d2, s', h2, fun x G2 H2 R2 gg2 hh2 r2 => ?_⟩⟩
  obtain ⟨p, ov, e4, g, i1, i2⟩ := atD_get R2.gh (zone_ex R2) e2 r2 (r1.mono gg2 (zone_mono hh2))
  refine ⟨p, ov, e4, g, k _ G2 H2 R2 (gg1.trans gg2) (hh1.trans hh2) ?_⟩
  cases r with
  | none => rw [i2 rfl]; simp only [Rep]; rfl
  | some d => obtain ⟨w, rfl, _⟩ := i1 d rfl; simp only [Rep]; rfl
theorem v_din (hr : Room j X.A) (hi : PE X a (tB (Γx X cls) true f)) (ho : PE X b (tB (Γx X cls) true h)) (h1 : behindInMarks .In b = false := by rfl) : PE X (.Compare a [.In] [b] pos) (tV (Γx X cls) (eOp gDIn f h)) := pe_imp (pe_cmp (pc_din (units1 hr) hi ho) h1) t_din
theorem v_dnotin (hr : Room j X.A) (hi : PE X a (tB (Γx X cls) true f)) (ho : PE X b (tB (Γx X cls) true h)) (h1 : behindInMarks .NotIn b = false := by rfl) : PE X (.Compare a [.NotIn] [b] pos) (tV (Γx X cls) (eOp gDNotIn f h)) := pe_imp (pe_cmp (pc_dnotin (units1 hr) hi ho) h1) t_dnotin
theorem bT {Γ : Ctx} {t : TE} (w : ∀ σ H Q, tV Γ f σ H Q → t σ H Q) : ∀ σ H Q, tT Γ (bTest f) σ H Q → L2.tB t σ H Q := fun σ H Q ⟨B, s, G, R, d, s', e1, k⟩ =>
  w σ H _ ⟨B, s, G, R, _, s', bTest_some e1, fun v G1 H1 R1 gg hh r => ⟨d, by simpa only [Rep] using r, k G1 H1 R1 gg hh⟩⟩
theorem p_din (hr : Room j X.A) (hi : PE X a (tB (Γx X cls) true f)) (ho : PE X b (tB (Γx X cls) true h)) (h1 : behindInMarks .In b = false := by rfl) : PT X (.Compare a [.In] [b] pos) (tT (Γx X cls) (bTest (eOp gDIn f h))) := pt_imp (pt_cmp (pc_din (units1 hr) hi ho) h1) (bT t_din)
theorem p_dnotin (hr : Room j X.A) (hi : PE X a (tB (Γx X cls) true f)) (ho : PE X b (tB (Γx X cls) true h)) (h1 : behindInMarks .NotIn b = false := by rfl) : PT X (.Compare a [.NotIn] [b] pos) (tT (Γx X cls) (bTest (eOp gDNotIn f h))) := pt_imp (pt_cmp (pc_dnotin (units1 hr) hi ho) h1) (bT t_dnotin)
end

/-! ### d[k] = v on an own dict -/
def putA (x y v : D) : Option D := match x with
  | .dK ks xs => (keyD y).bind fun k => if ks.length < lim then some (.dK (putD ks xs k v).1 (putD ks xs k v).2) else none
  | .dT ks xs => (tkeyD y).bind fun k => if ks.length < lim then some (.dT (putD ks xs k v).1 (putD ks xs k v).2) else none
  | _ => none
def ownA (s : S) (i : Nat) : Option D := match s.env[i]? with
  | some (.own d) => some d
  | _ => none
theorem ownA_some {s : S} {i : Nat} {d : D} (h : ownA s i = some d) : s.env[i]? = some (.own d) := by
  unfold ownA at h
  split at h
  · rename_i e
    cases h
    exact e
  · cases h
/-- e, then d (own), then the key -/
def cPutD (i : Nat) (f j : M D) : St1 := fun s => (f s).bind fun p => (ownA p.2 i).bind fun _ => (j p.2).bind fun q => (ownA q.2 i).bind fun x => (putA x q.1 p.1).map fun z => .nx (q.2.put i (.own z))
theorem SRel.ownA {Γ : Ctx} {B : Bs} {s : S} {σ : L2.St} {G H : Hp} {i : Nat} {d : D} (R : SRel Γ B s σ G H) (h : DL.ownA s i = some d) : ∃ a o, σ[i]? = some (some (.ref a)) ∧ H a = some o ∧ Cell Γ G d o ∧ G a = none := by
  obtain ⟨a, o, e, n1, n2, n3, ha, c⟩ := R.slot i _ (ownA_some h)
  exact ⟨a, o, slot_get e, ha, c, n3⟩
theorem putA_put {Γ : Ctx} {G H : Hp} {x y v z : D} {a : Addr} {o : HO} {yv vv : V} (gh : Ex G H) (h : putA x y v = some z) (ha : H a = some o) (c : Cell Γ G x o) (ry : RepZ Γ G G y yv) (rv : Rep Γ G v vv) : ∃ o', DPut H a yv vv (upd H a o') ∧ Cell Γ G z o' := by
  cases x with
  | dK ks xs =>
    cases o with
    | dK ws =>
      obtain ⟨c1, c2⟩ := c
      simp only [putA] at h
      cases e : keyD y with
      | none => rw [e] at h; cases h
      | some k =>
        rw [e] at h
        simp only [Option.bind_some] at h
        split at h
        · rename_i hl
          cases h
          have e := keyD_rep e ry
          subst e
          have hw : ws.length < lim := by rw [← c1, List.length_map] at hl; exact hl
          exact ⟨_, DPut.k ha (lim_lt hw), putD_rep c1 c2 rv⟩
        · cases h
    | _ => exact c.elim
  | dT ks xs =>
    cases o with
    | dT ws =>
      obtain ⟨c1, c2⟩ := c
      simp only [putA] at h
      cases e : tkeyD y with
      | none => rw [e] at h; cases h
      | some k =>
        rw [e] at h
        simp only [Option.bind_some] at h
        split at h
        · rename_i hl
          cases h
          obtain ⟨b, rfl, hb⟩ := tkeyD_rep gh e ry
          have hw : ws.length < lim := by rw [← c1, List.length_map] at hl; exact hl
          exact ⟨_, DPut.t ha hb (lim_lt hw), putD_rep c1 c2 rv⟩
        · cases h
    | _ => exact c.elim
  | _ => cases h
section
variable {X : Cx} {cls : ClsT} {e i o : Expr} {f h fj : M D} {pos pos' : Pos} {j k0 : Nat}
theorem s_dput {n : Nat} (hr : Room j X.A) (ho : PE X o (tVar n)) (hi : PE X i (tV (Γx X cls) fj)) (hv : PE X e (tV (Γx X cls) f)) (hs : swapsWith e (some (.Subscript o i pos')) pos.line X.env = pure false := by rfl) :
    PS X (.Assign [.Subscript o i pos'] e pos) (tS (Γx X cls) (cPutD n f fj)) := ps_imp (ps_dput (units1 hr) ho hi hv hs) fun D σ H ⟨B, s, G, R, o, e1, k⟩ => by
  unfold cPutD at e1
  cases h1 : f s with
  | none => rw [h1] at e1; cases e1
  | some p =>
    obtain ⟨d1, s1⟩ := p
    rw [h1] at e1
    simp only [Option.bind_some] at e1
    cases h0 : ownA s1 n with
    | none => rw [h0] at e1; cases e1
    | some y0 =>
      rw [h0] at e1
      simp only [Option.bind_some] at e1
      cases h2 : fj s1 with
      | none => rw [h2] at e1; cases e1
      | some q =>
        obtain ⟨d2, s2⟩ := q
        rw [h2] at e1
        simp only [Option.bind_some] at e1
        cases h3 : ownA s2 n with
        | none => rw [h3] at e1; cases e1
        | some x =>
          rw [h3] at e1
          simp only [Option.bind_some] at e1
          obtain ⟨z, h4, rfl⟩ := map_some e1
          refine ⟨B, s, G, R, d1, s1, h1, fun v G1 H1 R1 gg1 hh1 r1 => ?_⟩
          obtain ⟨a, o1, e2, _, _, _⟩ := R1.ownA h0
          refine ⟨_, e2, B, s1, G1, R1, d2, s2, h2, fun w G2 H2 R2 gg2 hh2 r2 => ?_⟩
          obtain ⟨a', o2, e3, ha, c, _⟩ := R2.ownA h3
          rw [e2] at e3
          cases e3
          obtain ⟨o', dp, c'⟩ := putA_put R2.gh h4 ha c (.inl r2) (r1.mono gg2)
          exact ⟨a, _, rfl, dp, k σ G2 _ (R2.write (ownA_some h3) (by rw [e2]; rfl) c') (gg1.trans gg2)⟩

/-! ### {a tuple: v} -/
def tDisp1 (tk tv : TE) : TE := fun σ H Q => ∀ p, H p = none → tk σ (upd H p (.dT [])) fun x H1 => tv σ H1 fun y H2 => H2 p = some (.dT []) ∧ ∃ b ks, x = .ref b ∧ H2 b = some (.tup (ks.map kV)) ∧ Q (.ref p) (upd H2 p (.dT [(ks, y)]))
theorem pe_disp1 {tk tv : TE} (hr : Room j X.A) (hk : PE X i tk) (hv : PE X e tv) : PE X (.Dict [some i] [e] pos) (tDisp1 tk tv) := ⟨fun pins s σ H Q I q => by
  have hn := I.hok.fresh (Nat.le_refl s.heap.objs.size)
  have I1 := I.laid (a := s.heap.objs.size) (o := .dT []) (h' := s.heap.push { cls := .type "dict", data := .dict #[] }) (t' := s.toks) (fun _ _ q => Heap.get?_push_of_some _ q) (Nat.le_refl _) (dt_empty s.heap I.big)
  have hz := zip_pairTrees [some i] [e] X.env pos rfl rfl
  rw [arm_eval_Dict, hz, dictDisplay_pairs (pairTrees [some i] [e] X.env pos) (fun z => by simpa [z] using pairTrees_length [some i] [e] X.env pos rfl rfl) (by rw [pairTrees_length _ _ _ _ rfl rfl]; simp)]
  refine wpAny_bind (wpAny_standAt (wpAny_bind (wpAny_subDictH (knd := tupleKind (mixKind X.prog X.w)) (show X.A.units < cLine by have := hr.units; omega) (by rw [pairTrees_length _ _ _ _ rfl rfl]; simp) ?_)))
  refine pairTrees_cons_walk (thn (hk.run pins _ σ _ _ I1 (q _ hn)) fun u s1 ⟨x, H1, I2, rx, q1⟩ => thn (hv.run pins s1 σ H1 _ I2 q1) fun w2 s2 ⟨y, H2, I3, ry, e2, b, ks, ex, hb, q2⟩ => pairTrees_nil_walk ?_)
  subst ex
  cases rx
  obtain ⟨z, hd, xs, rel, dd⟩ := dt_of I3.hok e2
  cases rel
  refine ⟨[(ks, b, w2)], ⟨rfl, rfl, key_of I3.hok hb, trivial⟩, dd, fun h' tk dd' hs => wpAny_pure ⟨.ref s.heap.objs.size, _, ?_, rfl, q2⟩⟩
  obtain ⟨q0, es, ep, hq, g2, g3, g4, _, g5⟩ := dd'
  refine d_write I3 (by rw [e2]; exact True.intro) hs ⟨q0, hq⟩ ⟨by show 1 ≤ sizeLine; decide, hd, _, .cons ⟨rfl, ?_, ry⟩ .nil, q0, es, ep, hq, g2, g3, g4, g5⟩
  rw [upd_ne (ne_of hb e2 (fun z => nomatch z))]
  exact hb⟩
def gDisp1 (y v : D) : Option D := (tkeyD y).map fun k => .dT [k] [v]
theorem f_disp1 (hr : Room j X.A) (hk : PE X i (tV (Γx X cls) f)) (hv : PE X e (tV (Γx X cls) h)) : PE X (.Dict [some i] [e] pos) (tF (Γx X cls) (eOp gDisp1 f h)) := pe_imp (pe_disp1 hr hk hv) fun σ H Q ⟨B, s, G, R, d, s', e1, k⟩ p hp => by
  obtain ⟨d1, s1, d2, h1, h2, h3⟩ := eOp_some e1
  obtain ⟨ks, h4, rfl⟩ := map_some h3
  have R0 := R.upd_free (p := p) (o := .dT []) (R.munone hp) (R.h0none hp) (R.gnone hp) (R.apart hp)
  have R1 := R0.prot (R.gnone hp) (by rw [upd_same]; simp) (R.h0none hp) (R.apart hp)
  refine ⟨B.prot p, s, G, R1, d1, s1, h1, fun x G1 H1 R2 gg1 hh1 r1 => ⟨B.prot p, s1, G1, R2, d2, s', h2, fun y G2 H2 R3 gg2 hh2 r2 => ?_⟩⟩
  have hm := R.munone hp
  have hp1 : H1 p = some (.dT []) := hh1 _ _ hm upd_same
  have hp2 : H2 p = some (.dT []) := hh2 _ _ hm hp1
  obtain ⟨b, rfl, hb⟩ := tkeyD_rep (Z := G2) R3.gh h4 (.inl (r1.mono gg2))
  refine ⟨hp2, b, ks, rfl, hb, ?_⟩
  have gp : G2 p = none := (R3.pr p List.mem_cons_self).1
  have R4 := R3.unprot.upd_free (p := p) (o := .dT [(ks, y)]) hm (R.h0none hp) gp R3.apart_prot
  refine k p _ G2 _ R4 (gg1.trans gg2) ?_ hp gp upd_same ⟨rfl, repL_cons r2 repL_nil⟩ R3.apart_prot
  intro c o nc hc
  have ne : c ≠ p := fun z => by rw [z, hp] at hc; cases hc
  rw [upd_ne ne]
  exact hh2 _ _ nc (hh1 _ _ nc (by rw [upd_ne ne]; exact hc))
end
end DL


set_option Elab.async false
set_option linter.all false
set_option maxRecDepth 100000
set_option maxHeartbeats 1000000
namespace DL
open PySem L2
open Evl (Ex)

/-! ### the cell that counts what was drawn -/
theorem SRel.draw {Γ : Ctx} {B : Bs} {s : S} {σ : St} {G H : Hp} {i : Nat} (R : SRel Γ B s σ G H) (h : s.env[i]? = some .drw) : ∃ a sv, B.ad = some (a, sv) ∧ σ[i]? = some (some (.ref a)) ∧ a ∈ B.mu ∧ H a = some (.lst [sv, .int s.k]) ∧ Rep Γ G (.scr s.scr) sv := by
  obtain ⟨a, sv, e1, e2⟩ := R.slot i _ h
  obtain ⟨m, h1, r⟩ := R.drw a sv e1
  exact ⟨a, sv, e1, slot_get e2, m, h1, r⟩
def isDrw (s : S) (i : Nat) : Bool := match s.env[i]? with
  | some .drw => true
  | _ => false
theorem isDrw_some {s : S} {i : Nat} (h : isDrw s i = true) : s.env[i]? = some .drw := by
  unfold isDrw at h
  split at h
  · assumption
  · cases h
/-- draw[0], draw[1], draw[1] += 1 -/
def eDrw0 (i : Nat) : M D := fun s => if isDrw s i then some (.scr s.scr, s) else none
def eDrw1 (i : Nat) : M D := fun s => if isDrw s i then some (.int s.k, s) else none
def cTick (i : Nat) : St1 := fun s => if isDrw s i then some (.nx { s with k := s.k + 1 }) else none
section
variable {X : Cx} {cls : ClsT} {o e : Expr} {es : List Stmt} {pos p1 tpos : Pos} {i j j' : Nat}
theorem v_drw0 (ho : PE X o (tVar i)) (hs : PlainIx (.Constant (.int 0) j p1) := by intro _ _; rfl) : PE X (.Subscript o (.Constant (.int 0) j p1) pos) (tV (Γx X cls) (eDrw0 i)) := pe_imp (pe_ix ix_list ho (pe_int (i := 0)) hs) fun σ H Q ⟨B, s, G, R, d, s', e1, k⟩ => by
  unfold eDrw0 at e1
  split at e1
  · rename_i hd
    cases e1
    obtain ⟨a, sv, e2, e3, m, ha, r⟩ := R.draw (isDrw_some hd)
    exact ⟨_, e3, a, _, 0, sv, rfl, rfl, SqL.of ha, rfl, k _ G H R (Ex.refl G) HH.refl r⟩
  · cases e1
theorem v_drw1 (ho : PE X o (tVar i)) (hs : PlainIx (.Constant (.int 1) j p1) := by intro _ _; rfl) : PE X (.Subscript o (.Constant (.int 1) j p1) pos) (tV (Γx X cls) (eDrw1 i)) := pe_imp (pe_ix ix_list ho (pe_int (i := 1)) hs) fun σ H Q ⟨B, s, G, R, d, s', e1, k⟩ => by
  unfold eDrw1 at e1
  split at e1
  · rename_i hd
    cases e1
    obtain ⟨a, sv, e2, e3, m, ha, r⟩ := R.draw (isDrw_some hd)
    exact ⟨_, e3, a, _, 1, .int s.k, rfl, rfl, SqL.of ha, rfl, k _ G H R (Ex.refl G) HH.refl (by simp only [Rep])⟩
  · cases e1
theorem s_tick (ho : PE X o (tVar i)) (ha : ∀ ov iv new, augStore (.Constant (.int 1) j p1) ov iv new = (do holding [new, ov, iv] (setItem ov iv new); release [new, ov, iv] []; pure .next) := by intros; rfl) {p2 : Pos} :
    PS X (.AugAssign (.Subscript o (.Constant (.int 1) j p1) tpos) .Add (.Constant (.int 1) j' p2) pos) (tS (Γx X cls) (cTick i)) := ps_imp (ps_augS ho (pe_int (i := 1)) get_list (pe_int (i := 1)) ip_add set_list ha) fun D σ H ⟨B, s, G, R, o, e1, k⟩ => by
  unfold cTick at e1
  split at e1
  · rename_i hd
    cases e1
    obtain ⟨a, sv, e2, e3, m, hv, r⟩ := R.draw (isDrw_some hd)
    refine ⟨_, e3, a, _, 1, .int s.k, rfl, rfl, SqL.of hv, rfl, s.k, 1, rfl, rfl, a, _, 1, 1, rfl, rfl, hv, rfl, ?_⟩
    have R2 : SRel (Γx X cls) B { s with k := s.k + 1 } σ G (upd H a (.lst [sv, .int (s.k + 1 : Nat)])) :=
      R.drawn e2 hv r (Ex.refl G) (fun b u hb => ?_) (fun b u n hb => by rw [upd_ne (fun z => n (by simp [z]))]; exact hb) upd_same (fun _ _ => rfl)
    · exact k σ G _ R2 (Ex.refl G)
    · have ne : b ≠ a := fun z => by
        rw [z, (R.mu a m).1] at hb
        cases hb
      rw [upd_ne ne]
      exact R.gh _ _ hb
  · cases e1

/-! ### the law's first statement, draw = [script, 0] -/
def tLaw (Γ : Ctx) (n i : Nat) (body : St1) : TS := fun D σ H => ∃ a ns, σ = (some (.ref a)) :: List.replicate n none ∧ 1 ≤ i ∧ i ≤ n ∧ SqL Γ.K H a (ns.map V.int) ∧ (∃ s', body ⟨(Sl.val (.scr ns) :: List.replicate n .no).set i .drw, 0, ns⟩ = some (.rt (.bl true) s')) ∧ ∀ H', D.rt (.bl true) H'
theorem ss_law {st : Stmt} {n : Nat} {body : St1} (h0 : PS X st (tAsg (tLst (tCons (tVar 0) (tCons (tC (.int 0)) tNil))) (gName i))) (h1 : PSs X es (tS (Γx X cls) body)) : PSs X (st :: es) (tLaw (Γx X cls) n i body) :=
  pss_imp (pss_cons h0 h1) fun D σ H ⟨a, ns, e, hi, hn, hs, ⟨s', hb⟩, hk⟩ => by
    subst e
    refine ⟨_, rfl, by show 2 ≤ sizeLine; decide, fun p hp => ?_⟩
    refine ⟨⟨upd H p (.lst [.ref a, .int 0]), H, [p], some (p, .ref a), []⟩, _, H, ?_, _, hb, fun v σ' G' H' R g r => ?_⟩
    · have l1 : ((Sl.val (.scr ns) :: List.replicate n Sl.no).set i .drw).length = n + 1 := by simp
      have hnil : upd H p (.lst [.ref a, .int 0]) p = some (.lst [.ref a, .int 0]) := upd_same
      refine ⟨by show ((Sl.val (.scr ns) :: List.replicate n Sl.no).set i .drw).length = _; simp, fun j x hx => ?_, fun j l b hj => ?_, Ex.new hp, fun b o _ e => e, fun _ _ => rfl, fun b m => ?_, fun b sv e => ?_, fun b m => (by cases m), fun j l hj => ?_⟩
      · rcases set_get hx with ⟨rfl, rfl, _⟩ | ⟨nj, hx⟩
        · refine ⟨p, .ref a, rfl, ?_⟩
          rw [join_set (by simp; omega)]
        · cases j with
          | zero =>
            simp at hx
            subst hx
            refine ⟨.ref a, ?_, ?_⟩
            · rw [join_set_ne (by omega)]; rfl
            · simp only [Rep]
              exact ⟨a, rfl, hs⟩
          | succ j =>
            simp at hx
            have := hx
            rw [List.getElem?_replicate] at this
            split at this
            · cases this; trivial
            · cases this
      · rcases isOwn_set hj with ⟨_, z, _⟩ | ⟨_, z⟩
        · exact z.elim
        · cases j with
          | zero => exact False.elim z
          | succ j =>
            simp [List.getElem?_replicate] at z
            split at z
            · exact False.elim z
            · exact False.elim z
      · simp at m
        subst m
        exact ⟨hp, by show upd H b _ b ≠ none; rw [upd_same]; simp, by rw [upd_same]; simp⟩
      · cases e
        refine ⟨by simp, upd_same, ?_⟩
        simp only [Rep]
        exact ⟨a, rfl, hs⟩
      · rcases isSlf_set hj with ⟨_, z⟩ | ⟨_, z⟩
        · exact z.elim
        · cases j with
          | zero => exact False.elim z
          | succ j =>
            simp [List.getElem?_replicate] at z
            split at z
            · exact False.elim z
            · exact False.elim z
    · simp only [Rep] at r
      subst r
      exact hk H'
end
/-- what a law's head asks -/
def spLaw (K : PySem.W.Frag) : Sp := fun vs H Q _ => ∃ (a : Addr) (ns : List Int), vs = [.ref a] ∧ SqL K H a (ns.map V.int) ∧ ns.length ≤ 63 ∧ ∀ H', Q (.bl true) H'
section
variable {P : Program} {w : World} {K : PySem.W.Frag} {mg : Str → Option Value} {base : Heap} {cls : ClsT} {x qual : Str} {st : Stmt} {f : Addr} {fd : FuncData} {N : List Str} {n0 : Str} {k n i : Nat} {body : St1}
theorem start_one {v : V} : L2.start (n0 :: N) [v] = some v :: List.replicate N.length none := by
  apply List.ext_getElem?
  intro j
  cases j with
  | zero => rfl
  | succ j => simp [L2.start, List.getElem?_replicate]
theorem fn_law (F : C8.Fun K x qual st f fd) (S : FnScope (n0 :: N) [n0] (C8.fnScope st)) (hi : 1 ≤ i ∧ i ≤ N.length)
    (hl : ∀ ns : List Int, ns.length ≤ 63 → ∃ s', body ⟨(Sl.val (.scr ns) :: List.replicate N.length .no).set i .drw, 0, ns⟩ = some (.rt (.bl true) s'))
    (h : ∀ (cdv : Value) (A : Around) (outer : List Env) (s : Shared) (H : Hp) (E : XK), Room k (A.deeper (PyProof.Rows.envOfC qual (C8.fnScope st) s.heap.objs.size f cdv)) →
      PSs (cxOf C8.CX0 P w K mg base (n0 :: N) qual (C8.fnScope st) f cdv A outer s H E).nox (C8.fnBody st) (tLaw ⟨K, cls⟩ N.length i body)) : FnOk P w K mg base C8.CX0 (k + 1) f fd [n0] (spLaw K) := by
  refine C8.fn0 F S (fun vs H Q E hs => ?_) (fun cdv A outer s H vs Q E hr hs => ⟨_, h cdv A outer s H E hr, ?_⟩)
  · obtain ⟨a, ns, rfl, _⟩ := hs
    rfl
  · obtain ⟨a, ns, rfl, hs, h63, hk⟩ := hs
    exact ⟨a, ns, start_one, hi.1, hi.2, hs, hl ns h63, hk⟩
end
end DL


set_option Elab.async false
set_option linter.all false
set_option maxRecDepth 100000
set_option maxHeartbeats 1000000
namespace DL
open PySem L2 PySem.Spec PyProof.Rows
open Evl (Ex)

theorem kit_self {K : PySem.W.Frag} {C : Addr} : PySem.W.kitOne K (.ref C) (.ref C) = some true := by
  unfold PySem.W.kitOne
  rw [if_pos (by simp)]
/-! ### objects of one of several classes as tests -/
abbrev TruTab := List (Nat × (List D → Option D))
structure TruOk (P : Program) (w : World) (K : PySem.W.Frag) (mg : Str → Option Value) (base : Heap) (cls : ClsT) (k : Nat) (tb : TruTab) : Prop where
  ok : ∀ q ∈ tb, ∃ C nm, ClsOk K cls q.1 C nm ∧ C8.Met P w K mg base k C "__bool__" (spP ⟨K, cls⟩ 1 q.2) []
def truD (tb : TruTab) : D → Option Bool
  | .obj c fs => (tb.lookup c).bind fun F => match F [.obj c fs] with
    | some (.bl b) => some b
    | _ => none
  | _ => none
def bObjs (tb : TruTab) (f : M D) : M Bool := fun s => (f s).bind fun p => (truD tb p.1).map fun b => (b, p.2)
theorem lookup_mem' {tb : TruTab} {c : Nat} {b : List D → Option D} (h : tb.lookup c = some b) : (c, b) ∈ tb := by
  induction tb with
  | nil => cases h
  | cons q r ih =>
    rw [List.lookup_cons] at h
    split at h
    · rename_i e
      cases h
      have e2 : c = q.1 := by simpa using e
      rw [e2]
      exact List.mem_cons_self
    · exact List.mem_cons_of_mem _ (ih h)
section
variable {X : Cx} {cls : ClsT} {a e : Expr} {f : M D} {pos p1 : Pos} {k j : Nat} {tb : TruTab}
theorem bObjs_some {s s' : S} {b : Bool} (h : bObjs tb f s = some (b, s')) : ∃ c fs F, f s = some (.obj c fs, s') ∧ (c, F) ∈ tb ∧ F [.obj c fs] = some (.bl b) := by
  unfold bObjs at h
  cases h1 : f s with
  | none => rw [h1] at h; cases h
  | some p =>
    rw [h1] at h
    simp only [Option.bind_some] at h
    obtain ⟨b', h2, e⟩ := map_some h
    cases e
    unfold truD at h2
    split at h2
    · rename_i c fs ec
      cases h3 : tb.lookup c with
      | none => rw [h3] at h2; cases h2
      | some F =>
        rw [h3] at h2
        simp only [Option.bind_some] at h2
        split at h2
        · rename_i hF
          cases h2
          exact ⟨c, fs, F, by rw [← ec], lookup_mem' h3, hF⟩
        · cases h2
    · cases h2
theorem p_objs (T : TruOk X.prog X.w X.K X.mg X.base cls k tb) (hr : Room j X.A) (hk : k ≤ j) (he : PE X e (tB (Γx X cls) true f)) (hi : ∀ whole, isTrue e X.env whole = (do let v ← whole; standAt e.pos; holding [v] (truthy v)) := by intro _; rfl) :
    PT X e (tT (Γx X cls) (bObjs tb f)) := ⟨fun pins sh σ H Q I ⟨B, s, G, R, b, s', e1, k⟩ => by
  obtain ⟨c, fs, F, h1, hm, h2⟩ := bObjs_some e1
  obtain ⟨C, nm, T1, T2⟩ := T.ok _ hm
  refine isTrue_plain (thn (he.run pins sh σ H (fun v H1 => ∃ G1, SRel (Γx X cls) B s' σ G1 H1 ∧ Ex G G1 ∧ HH B.mu H H1 ∧ RepZ (Γx X cls) G1 (zone true B H1) (.obj c fs) v) I ⟨B, s, G, R, _, s', h1, fun v G1 H1 R1 gg hh r => ⟨G1, R1, gg, hh, r⟩⟩) fun u s1 ⟨v, H1, I1, ru, G1, R1, gg, hh, r⟩ => ?_) (hi _)
  exact tru_d T1 T2 (hr.mono hk) rfl I1 ru R1 r h2 fun G' H' R' gg' hh' => k G' H' R' (gg.trans gg') (hh.trans hh')⟩
theorem v_notOs (T : TruOk X.prog X.w X.K X.mg X.base cls k tb) (hr : Room j X.A) (hk : k ≤ j) (he : PE X e (tB (Γx X cls) true f)) : PE X (.UnaryOp .Not e pos) (tV (Γx X cls) (eB (bNot (bObjs tb f)))) := ⟨fun pins sh σ H Q I ⟨B, s, G, R, d, s', e1, k⟩ => by
  obtain ⟨p, hp, e2⟩ := map_some e1
  unfold bNot at hp
  obtain ⟨q, hq, rfl⟩ := map_some hp
  obtain ⟨b, s2⟩ := q
  cases e2
  obtain ⟨c, fs, F, h1, hm, h2⟩ := bObjs_some hq
  obtain ⟨C, nm, T1, T2⟩ := T.ok _ hm
  refine UnaryOp_ (thn (he.run pins sh σ H (fun v H1 => ∃ G1, SRel (Γx X cls) B s2 σ G1 H1 ∧ Ex G G1 ∧ HH B.mu H H1 ∧ RepZ (Γx X cls) G1 (zone true B H1) (.obj c fs) v) I ⟨B, s, G, R, _, s2, h1, fun v G1 H1 R1 gg hh r => ⟨G1, R1, gg, hh, r⟩⟩) fun u s1 ⟨v, H1, I1, ru, G1, R1, gg, hh, r⟩ => ?_)
  refine PyProof.Rows.not_of (thn (tru_d (Q := fun b' H2 => ∃ G2, SRel (Γx X cls) B s2 σ G2 H2 ∧ Ex G1 G2 ∧ HH B.mu H1 H2 ∧ b' = b) T1 T2 (hr.mono hk) rfl I1 ru R1 r h2 fun G' H' R' gg' hh' => ⟨G', R', gg', hh', rfl⟩) fun b' s3 ⟨H2, I2, G2, R2, gg2, hh2, eb⟩ => ?_)
  subst eb
  exact ⟨.bl (!b'), H2, I2, rfl, k _ G2 H2 R2 (gg.trans gg2) (hh.trans hh2) (by simp only [Rep])⟩⟩
theorem v_boolOs (T : TruOk X.prog X.w X.K X.mg X.base cls k tb) (hr : Room j X.A) (hk : k + 3 ≤ j) (hm : X.mg "bool" = none) (he : PE X e (tB (Γx X cls) true f)) (hg : Gl X "bool" := by rfl) (na : starEach [e] X.env = (false, eval e X.env) :: starEach [] X.env := by rfl) :
    PE X (.Call (.Name "bool" p1) [e] [] pos) (tV (Γx X cls) (eB (bObjs tb f))) := ⟨fun pins sh σ H Q I ⟨B, s, G, R, d, s', e1, k⟩ => by
  obtain ⟨p, hp, e2⟩ := map_some e1
  obtain ⟨b, s2⟩ := p
  cases e2
  obtain ⟨c, fs, F, h1, hmem, h2⟩ := bObjs_some hp
  obtain ⟨C, nm, T1, T2⟩ := T.ok _ hmem
  have w : bObj c F f s = some (b, s2) := by
    unfold bObj
    rw [h1]
    simp only [Option.bind_some, if_true, h2]
  exact (v_boolO T1 T2 hr hk hm he hg na).run pins sh σ H Q I ⟨B, s, G, R, .bl b, s2, by unfold eB; rw [w]; rfl, k⟩⟩
end
/-! ### x += e, x -= e on ints -/
def gAugAdd : D → D → Option D := d2I fun i j => some (.int (i + j))
def gAugSub : D → D → Option D := d2I fun i j => some (.int (i - j))
theorem od_augAdd {Γ : Ctx} : OpD Γ (fun x y H Q => ipI (fun i j => i + j) x y H Q) gAugAdd := fun G Z H x y d e z Q gh zh rx ry hg k => od_I0 (f := fun i j => i + j) G Z H x y d e z Q gh zh rx ry hg k
theorem od_augSub {Γ : Ctx} : OpD Γ (fun x y H Q => ipI (fun i j => i - j) x y H Q) gAugSub := fun G Z H x y d e z Q gh zh rx ry hg k => od_I0 (f := fun i j => i - j) G Z H x y d e z Q gh zh rx ry hg k
/-- turns of a while: enough -/
def fuel : Nat := 1000000
/-! ### x = [..] on one line -/
section
variable {X : Cx} {cls : ClsT} {st : Stmt} {b : Bd} {u : M Bool} {f : M D} {it : M (List D)} {vs ix : List Nat} {i : Nat}
theorem s_setC (hix : ∀ i ∈ ix, i ∈ vs) (h : PS X st (tAsg (tLc (tI (Γx X cls) true it) (tG (Γx X cls) ix b) (tT (Γx X cls) u) (tV (Γx X cls) f) vs) (gName i))) : PS X st (tS (Γx X cls) (cSetF i (eComp it vs b u f))) := ps_imp h fun D σ H w => t_comp hix σ H _ (t_setF D σ H w)
variable {b1 : Bd} {u1 : M Bool} {it1 : M (List D)} {vs1 ix1 : List Nat}
theorem s_setC2 (hix : ∀ i ∈ ix, i ∈ vs) (hix1 : ∀ i ∈ ix1, i ∈ vs1) (hv : ∀ i ∈ vs1, i ∈ vs) (h : PS X st (tAsg (tLc2 (tI (Γx X cls) true it) (tG (Γx X cls) ix b) (tT (Γx X cls) u) (tI (Γx X cls) true it1) (tG (Γx X cls) ix1 b1) (tT (Γx X cls) u1) (tV (Γx X cls) f) vs vs1) (gName i))) :
    PS X st (tS (Γx X cls) (cSetF i (eComp2 it vs vs1 b u it1 b1 u1 f))) := ps_imp h fun D σ H w => t_comp2 hix hix1 hv σ H _ (t_setF D σ H w)
end
end DL


set_option Elab.async false
set_option linter.all false
set_option maxRecDepth 100000
set_option maxHeartbeats 1000000
namespace DL
open PySem L2 PySem.Spec PyProof.Rows
open Evl (Ex)
/-! ### sum(a tuple of ints) -/
theorem pre_fold (f : Nat → Int) : ∀ n, preSum f n = ((List.range n).map f).sum
  | 0 => rfl
  | n + 1 => by
    rw [List.range_succ, List.map_append, List.sum_append, ← pre_fold f n]
    simp [preSum]
section
variable {prog : Program} {w : World} {A : Around} {E : Value → Shared → Prop} {s : Shared} {t : Addr} {us : List Value} {ns : List Int} {Q : Value → Shared → Prop}
theorem sum_tup (hh : A.handled = none) (ht : s.heap.IsTuple t us.toArray) (hi : IntsAre us ns) (h : ∀ h' tk t', (∀ b o, s.heap.get? b = some o → h'.get? b = some o) → Q (.int ns.sum t') { s with heap := h', toks := tk }) :
    wpAny (model prog w) A (call (.builtin "sum") [.ref t]) Q E s := by
  have hlt : t < s.heap.objs.size := by obtain ⟨_, e, _⟩ := ht; exact Heap.lt_size e
  have hl : us.length = ns.length := IntsAre.length hi
  refine call_sum_walkG (wpAny_pyIter_tuple ht ?_)
  refine ⟨_, _, _, _, _, _, fun i => ns.getD i 0, rfl, Walks.tuple (A := A.in1) hh s.heap.objs.size t (Nat.ne_of_lt hlt) us.toArray, ⟨⟨_, Heap.get?_push_size _ rfl, rfl, rfl⟩, ht.at fun o e => Heap.get?_push_of_some _ e⟩, fun b hb => ?_, fun i v hv => ?_, fun h' tk t' hk => ?_⟩
  · rw [Heap.size_push]
    rcases List.mem_cons.mp hb with z | z
    · rw [z]; exact Nat.lt_succ_self _
    · have e : b = t := by simpa using z
      rw [e]; exact Nat.lt_succ_of_lt hlt
  · have hv : us[i]? = some v := by simpa using hv
    have go : ∀ {us : List Value} {ns : List Int} {i : Nat}, IntsAre us ns → us[i]? = some v → ∃ t, v = .int (ns.getD i 0) t := by
      intro us ns i hi
      induction hi generalizing i with
      | nil => intro e; simp at e
      | cons n k r ih =>
        intro e
        cases i with
        | zero => simp at e; exact ⟨k, by simp [← e]⟩
        | succ i =>
          obtain ⟨t, e2⟩ := ih (i := i) (by simpa using e)
          exact ⟨t, by simpa using e2⟩
    exact go hi hv
  · have q := h h' tk t' fun b o e => hk b o (fun z => by
      have z : b = s.heap.objs.size := by simpa using z
      rw [z] at e
      exact absurd (Heap.lt_size e) (Nat.lt_irrefl _)) (Heap.get?_push_of_some _ e)
    have e : preSum (fun i => ns.getD i 0) us.toArray.size = ns.sum := by
      rw [pre_fold, List.size_toArray, hl]
      congr 1
      apply List.ext_getElem
      · simp
      · intro i h1 h2
        simp at h1
        simp [List.getD, h1]
    rw [e]
    exact q
end
def rSumT (K : PySem.W.Frag) : List V → Hp → VK → Prop := fun vs H Q => ∃ (a : Addr) (ns : List Int), vs = [V.ref a] ∧ SqT K H a (ns.map V.int) ∧ Q (.int ns.sum) H
theorem cr_sumT {X : Cx} (hc : X.calm = true) : CallR X (.builtin "sum") (rSumT X.K) := fun pins s σ H vs us Q I r ⟨a, ns, e, hs, q⟩ => by
  subst e
  obtain ⟨its, rv, hl, _⟩ := I.tuple hs
  rw [Vals.ref1 r]
  exact sum_tup (I.ok.hd hc) (show s.heap.IsTuple a its.toArray from hl) rv.ints fun h' tk t' hk => ⟨.int _, H, I.kept hk, ⟨_, rfl⟩, q⟩
def rSumA (K : PySem.W.Frag) : List V → Hp → VK → Prop := fun xs H Q => rSum K xs H Q ∨ rSumT K xs H Q
theorem call_sumA {X : Cx} (hc : X.calm = true) : CallR X (.builtin "sum") (rSumA X.K) := (cr_sum hc).or (cr_sumT hc)
def gSumA : List D → Option D
  | [.lst xs] => (intsOf xs).map fun ns => .int ns.sum
  | [.tup xs] => (intsOf xs).map fun ns => .int ns.sum
  | _ => none
theorem cd_sumA {Γ : Ctx} : CbD Γ (rSumA Γ.K) gSumA := fun G Z H xs ds z Q gh zh r hg k => by
  unfold gSumA at hg
  split at hg
  · exact .inl (cd_sum G Z H xs _ z Q gh zh r hg k)
  · obtain ⟨ns, e, rfl⟩ := map_some hg
    have e := intsOf_some e
    subst e
    obtain ⟨v, rfl, r1⟩ := repsZ1 r
    obtain ⟨a, vs, rfl, ha, hr⟩ := r1.tup gh
    have e := hr.ints
    subst e
    exact .inr ⟨a, ns, rfl, SqT.of ha, k _ G H (Ex.refl G) gh (Ex.refl H) (fun _ _ => rfl) (by simp only [Rep])⟩
  · cases hg
end DL


set_option Elab.async false
set_option linter.all false
set_option maxRecDepth 100000
set_option maxHeartbeats 1000000
namespace DL
open PySem L2
/-! ### what the denotations compute: loops -/
section
variable {vs : List Nat} {b : Bd} {u : M Bool} {f : M D} {it : M (List D)}
theorem compLoop_pure {s0 : S} {g : D → Option D} : ∀ (items acc : List D), acc.length + items.length ≤ lim →
    (∀ d ∈ items, ∃ s1, b d s0 = some s1 ∧ ((∃ s2 y s3, u s1 = some (true, s2) ∧ f s2 = some (y, s3) ∧ s3.wipe vs = s0 ∧ g d = some y) ∨ ∃ s2, u s1 = some (false, s2) ∧ s2.wipe vs = s0 ∧ g d = none)) →
    compLoop vs b u f items acc s0 = some (acc ++ items.filterMap g, s0)
  | [], acc, _, _ => by simp [compLoop]
  | d :: r, acc, hl, h => by
    obtain ⟨s1, h1, h2⟩ := h d List.mem_cons_self
    simp only [List.length_cons] at hl
    rw [compLoop, h1, Option.bind_some]
    rcases h2 with ⟨s2, y, s3, h3, h4, h5, h6⟩ | ⟨s2, h3, h5, h6⟩
    · rw [h3, Option.bind_some]
      simp only [if_true]
      rw [h4, Option.bind_some]
      simp only
      rw [if_pos (by omega), h5, compLoop_pure r _ (by simp; omega) fun d hd => h d (List.mem_cons_of_mem _ hd)]
      rw [List.filterMap_cons, h6]
      simp
    · rw [h3, Option.bind_some]
      simp only [if_false, Bool.false_eq_true]
      rw [h5, compLoop_pure r _ (by omega) fun d hd => h d (List.mem_cons_of_mem _ hd)]
      rw [List.filterMap_cons, h6]
theorem eComp_pure {s s1 : S} {items : List D} {g : D → Option D} (h0 : it s = some (items, s1)) (hl : items.length ≤ lim)
    (h : ∀ d ∈ items, ∃ t1, b d (s1.wipe vs) = some t1 ∧ ((∃ t2 y t3, u t1 = some (true, t2) ∧ f t2 = some (y, t3) ∧ t3.wipe vs = s1.wipe vs ∧ g d = some y) ∨ ∃ t2, u t1 = some (false, t2) ∧ t2.wipe vs = s1.wipe vs ∧ g d = none)) :
    eComp it vs b u f s = some (.lst (items.filterMap g), (s1.wipe vs).rest s1 vs) := by
  unfold eComp
  rw [h0, Option.bind_some, compLoop_pure items [] (by simpa using hl) h]
  rfl
/-- over ints -/
theorem eComp_ints {s s1 : S} {ns : List Int} {P : Int → Bool} {e : Int → D} (h0 : it s = some (ns.map .int, s1)) (hl : ns.length ≤ lim)
    (h : ∀ i ∈ ns, ∃ t1, b (.int i) (s1.wipe vs) = some t1 ∧ ∃ t2, u t1 = some (P i, t2) ∧ if P i = true then ∃ t3, f t2 = some (e i, t3) ∧ t3.wipe vs = s1.wipe vs else t2.wipe vs = s1.wipe vs) :
    eComp it vs b u f s = some (.lst ((ns.filter P).map e), (s1.wipe vs).rest s1 vs) := by
  rw [eComp_pure (g := fun d => match d with | .int i => if P i then some (e i) else none | _ => none) h0 (by simpa using hl) fun d hd => ?_]
  · congr 3
    clear h h0 hl
    induction ns with
    | nil => rfl
    | cons n r ih =>
      rw [List.map_cons, List.filterMap_cons]
      simp only
      by_cases hp : P n = true
      · rw [if_pos hp, List.filter_cons_of_pos hp, List.map_cons, ← ih]
      · rw [if_neg hp, List.filter_cons_of_neg hp, ← ih]
  · obtain ⟨i, hi, rfl⟩ := List.mem_map.mp hd
    obtain ⟨t1, h1, t2, h2, h3⟩ := h i hi
    refine ⟨t1, h1, ?_⟩
    by_cases hp : P i = true
    · rw [if_pos hp] at h3
      obtain ⟨t3, h4, h5⟩ := h3
      rw [hp] at h2
      exact .inl ⟨t2, e i, t3, h2, h4, h5, by simp [hp]⟩
    · rw [if_neg hp] at h3
      rw [Bool.not_eq_true] at hp
      rw [hp] at h2
      exact .inr ⟨t2, h2, h3, by simp [hp]⟩
variable {body : St1}
/-- a loop that runs to its end -/
theorem forLoop_inv {P : Nat → S → Prop} : ∀ {items : List D} {n : Nat} {s : S}, (∀ (i : Nat) d s, items[i]? = some d → P (n + i) s → ∃ s1, b d s = some s1 ∧ ∃ s2, (body s1 = some (.nx s2) ∨ body s1 = some (.ct s2)) ∧ P (n + i + 1) s2) →
    P n s → ∃ s', forLoop b body items s = some (.nx s') ∧ P (n + items.length) s'
  | [], n, s, _, h0 => ⟨s, rfl, h0⟩
  | d :: r, n, s, h, h0 => by
    obtain ⟨s1, h1, s2, h2, h3⟩ := h 0 d s rfl (by simpa using h0)
    obtain ⟨s', h4, h5⟩ := forLoop_inv (P := P) (items := r) (n := n + 1) (s := s2) (fun i d s hi hp => by
      have e : n + (i + 1) = n + 1 + i := by omega
      have := h (i + 1) d s (by simpa using hi) (by rw [e]; exact hp)
      rw [e] at this
      exact this) (by simpa using h3)
    refine ⟨s', ?_, by rw [List.length_cons]; have e : n + (r.length + 1) = n + 1 + r.length := by omega
                       rw [e]; exact h5⟩
    rw [forLoop, h1, Option.bind_some]
    rcases h2 with h2 | h2 <;> rw [h2, Option.bind_some] <;> exact h4
theorem cFor_inv {P : Nat → S → Prop} {s s1 : S} {items : List D} (h0 : it s = some (items, s1)) (hp : P 0 s1)
    (h : ∀ (i : Nat) d s, items[i]? = some d → P i s → ∃ s1, b d s = some s1 ∧ ∃ s2, (body s1 = some (.nx s2) ∨ body s1 = some (.ct s2)) ∧ P (i + 1) s2) : ∃ s', cFor it b body s = some (.nx s') ∧ P items.length s' := by
  obtain ⟨s', h1, h2⟩ := forLoop_inv (P := P) (items := items) (n := 0) (s := s1) (by simpa using h) hp
  exact ⟨s', by unfold cFor; rw [h0, Option.bind_some]; exact h1, by simpa using h2⟩
variable {c : M Bool}
/-- a while loop: P by a measure -/
theorem while_inv {P : Nat → S → Prop} {Post : Out → Prop} (h : ∀ n s, P n s → ∃ t s1, c s = some (t, s1) ∧ if t = true then ∃ o, body s1 = some o ∧ (match o with
      | .nx s2 => ∃ m, m < n ∧ P m s2
      | .ct s2 => ∃ m, m < n ∧ P m s2
      | .bk s2 => Post (.nx s2)
      | .rt d s2 => Post (.rt d s2)) else Post (.nx s1)) : ∀ {N n : Nat} {s : S}, n < N → P n s → ∃ o, whileLoop c body N s = some o ∧ Post o
  | 0, n, s, hn, _ => by omega
  | N + 1, n, s, hn, hp => by
    obtain ⟨t, s1, h1, h2⟩ := h n s hp
    rw [whileLoop, h1, Option.bind_some]
    cases t with
    | false => exact ⟨_, rfl, h2⟩
    | true =>
      obtain ⟨o, h3, h4⟩ := h2
      simp only [if_true]
      rw [h3, Option.bind_some]
      cases o with
      | nx s2 =>
        obtain ⟨m, hm, q⟩ := h4
        exact while_inv h (by omega) q
      | ct s2 =>
        obtain ⟨m, hm, q⟩ := h4
        exact while_inv h (by omega) q
      | bk s2 => exact ⟨_, rfl, h4⟩
      | rt d s2 => exact ⟨_, rfl, h4⟩
theorem cWhile_inv {P : Nat → S → Prop} {Post : Out → Prop} {N n : Nat} {s : S} (hn : n < N) (hp : P n s) (h : ∀ n s, P n s → ∃ t s1, c s = some (t, s1) ∧ if t = true then ∃ o, body s1 = some o ∧ (match o with
      | .nx s2 => ∃ m, m < n ∧ P m s2
      | .ct s2 => ∃ m, m < n ∧ P m s2
      | .bk s2 => Post (.nx s2)
      | .rt d s2 => Post (.rt d s2)) else Post (.nx s1)) : ∃ o, cWhile N c body s = some o ∧ Post o := while_inv h hn hp
end

/-! ### operators on ints and lists of ints -/
theorem toPyL_ints (xs : List Int) : toPyL (xs.map .int) = some (xs.map .int) := by
  induction xs with
  | nil => rfl
  | cons x r ih => simp [toPyL, toPy, ih]
theorem lay_ints (xs : List Int) : PyData.canLayAll0 (xs.map .int) = true := by
  induction xs with
  | nil => rfl
  | cons x r ih => simp [PyData.canLayAll0, PyData.canLay0, ih]
theorem depth_ints (xs : List Int) : PyData.depthAll (xs.map .int) = 0 := by
  induction xs with
  | nil => rfl
  | cons x r ih => simp [PyData.depthAll, PyData.depth, ih]
theorem eqv_ints : ∀ (xs ys : List Int), PyData.eqvAll (xs.map .int) (ys.map .int) = decide (xs = ys)
  | [], [] => rfl
  | [], y :: ys => rfl
  | x :: xs, [] => rfl
  | x :: xs, y :: ys => by
    simp only [List.map_cons, PyData.eqvAll, PyData.eqv, eqv_ints xs ys, List.cons.injEq, Bool.decide_and]
    rfl
theorem eqD_lst (xs ys : List Int) : eqD (.lst (xs.map .int)) (.lst (ys.map .int)) = some (decide (xs = ys)) := by
  unfold eqD
  simp only [toPy, toPyL_ints, Option.map_some, Option.bind_some, SeqAt.shaped, PyData.canLay0, PyData.depth, lay_ints, depth_ints, PyData.eqv, eqv_ints]
  simp
theorem eqD_nil (xs : List Int) : eqD (.lst (xs.map .int)) (.lst []) = some (decide (xs = [])) := eqD_lst xs []
theorem eqD_tup (xs ys : List Int) : eqD (.tup (xs.map .int)) (.tup (ys.map .int)) = some (decide (xs = ys)) := by
  unfold eqD
  simp only [toPy, toPyL_ints, Option.map_some, Option.bind_some, SeqAt.shaped, PyData.canLay0, PyData.depth, lay_ints, depth_ints, PyData.eqv, eqv_ints]
  simp
theorem eqD_tnil (xs : List Int) : eqD (.tup (xs.map .int)) (.tup []) = some (decide (xs = [])) := eqD_tup xs []
theorem eqD_int (a b : Int) : eqD (.int a) (.int b) = some (decide (a = b)) := by
  unfold eqD
  simp only [toPy, Option.bind_some, SeqAt.shaped, PyData.canLay0, PyData.depth, PyData.eqv]
  simp
  rfl
theorem eqD_bl (a b : Bool) : eqD (.bl a) (.bl b) = some (decide (a = b)) := by
  cases a <;> cases b <;> rfl
theorem eqD_scr (ns : List Int) : eqD (.scr ns) (.lst []) = some (decide (ns = [])) := by
  have e : eqD (.scr ns) (.lst []) = eqD (.lst (ns.map .int)) (.lst (([] : List Int).map .int)) := by
    unfold eqD
    simp only [toPy, toPyL_ints, Option.map_some]
    rfl
  rw [e, eqD_lst]
theorem isi_int (i : Int) : gIsi ["int"] (.int i) = some (.bl true) := by
  have e : isiB "int" ["int"] = some true := by decide +kernel
  simp [gIsi, tyN, e]
theorem isi_int_bool (i : Int) : gIsi ["bool"] (.int i) = some (.bl false) := by
  have e : isiB "int" ["bool"] = some false := by decide +kernel
  simp [gIsi, tyN, e]
theorem isi_row_lst (xs : List D) : gIsi ["list", "tuple"] (.lst xs) = some (.bl true) := by
  have e : isiB "list" ["list", "tuple"] = some true := by decide +kernel
  simp [gIsi, tyN, e]
theorem isi_row_tup (xs : List D) : gIsi ["list", "tuple"] (.tup xs) = some (.bl true) := by
  have e : isiB "tuple" ["list", "tuple"] = some true := by decide +kernel
  simp [gIsi, tyN, e]
theorem atI_int {α : Type} {xs : List α} {i : Int} (h0 : 0 ≤ i) (h1 : i < xs.length) : atI xs i = xs[i.toNat]? := by
  unfold atI ixN
  rw [if_pos h0, if_pos h1]
  rfl
theorem atI_ints {xs : List Int} {i : Int} (h0 : 0 ≤ i) (h1 : i < xs.length) : atI (xs.map D.int) i = some (.int (xs.getD i.toNat 0)) := by
  rw [atI_int h0 (by simpa using h1)]
  have : i.toNat < xs.length := by omega
  simp [List.getD, this]
theorem ixN_int {n : Nat} {i : Int} (h0 : 0 ≤ i) (h1 : i < n) : ixN n i = some i.toNat := by
  unfold ixN
  rw [if_pos h0, if_pos h1]
theorem rangeD0 (n : Nat) : rangeD 0 n = ((List.range n).map fun (i : Nat) => (i : Int)).map .int := by
  unfold rangeD
  rw [List.map_map]
  apply List.map_congr_left
  intro i _
  simp
end DL
namespace DL
open PySem
/-! ### one statement after the other -/
theorem cSeq_nx {f g : St1} {s s1 : S} (h : f s = some (.nx s1)) : cSeq f g s = g s1 := by unfold cSeq; rw [h]; rfl
theorem cSeq_rt {f g : St1} {s s1 : S} {d : D} (h : f s = some (.rt d s1)) : cSeq f g s = some (.rt d s1) := by unfold cSeq; rw [h]; rfl
theorem cSeq_ct {f g : St1} {s s1 : S} (h : f s = some (.ct s1)) : cSeq f g s = some (.ct s1) := by unfold cSeq; rw [h]; rfl
theorem cSeq_bk {f g : St1} {s s1 : S} (h : f s = some (.bk s1)) : cSeq f g s = some (.bk s1) := by unfold cSeq; rw [h]; rfl
theorem cIf_tt {c : M Bool} {f g : St1} {s s1 : S} (h : c s = some (true, s1)) : cIf c f g s = f s1 := by unfold cIf; rw [h]; rfl
theorem cIf_ff {c : M Bool} {f g : St1} {s s1 : S} (h : c s = some (false, s1)) : cIf c f g s = g s1 := by unfold cIf; rw [h]; rfl
theorem cRet_of {f : M D} {s s1 : S} {d : D} (h : f s = some (d, s1)) : cRet f s = some (.rt d s1) := by unfold cRet; rw [h]; rfl
theorem cDrop_of {f : M D} {s s1 : S} {d : D} (h : f s = some (d, s1)) : cDrop f s = some (.nx s1) := by unfold cDrop; rw [h]; rfl
theorem cSet_of {i : Nat} {f : M D} {s s1 : S} {d : D} (h : f s = some (d, s1)) : cSet i f s = some (.nx (s1.put i (.val d))) := by unfold cSet; rw [h]; rfl
theorem cSetF_of {i : Nat} {f : M D} {s s1 : S} {d : D} (h : f s = some (d, s1)) : cSetF i f s = some (.nx (s1.put i (.own d))) := by unfold cSetF; rw [h]; rfl
theorem eOp_of {g : D → D → Option D} {f h : M D} {s s1 s2 : S} {d1 d2 d : D} (h1 : f s = some (d1, s1)) (h2 : h s1 = some (d2, s2)) (h3 : g d1 d2 = some d) : eOp g f h s = some (d, s2) := by unfold eOp; rw [h1, Option.bind_some, h2, Option.bind_some, h3]; rfl
theorem eUn_of {g : D → Option D} {f : M D} {s s1 : S} {d1 d : D} (h1 : f s = some (d1, s1)) (h3 : g d1 = some d) : eUn g f s = some (d, s1) := by unfold eUn; rw [h1, Option.bind_some, h3]; rfl
theorem eL_of {g : List D → Option D} {f : M (List D)} {s s1 : S} {ds : List D} {d : D} (h1 : f s = some (ds, s1)) (h3 : g ds = some d) : eL f g s = some (d, s1) := by unfold eL; rw [h1, Option.bind_some, h3]; rfl
theorem aCons_of {f : M D} {h : M (List D)} {s s1 s2 : S} {d : D} {ds : List D} (h1 : f s = some (d, s1)) (h2 : h s1 = some (ds, s2)) : aCons f h s = some (d :: ds, s2) := by unfold aCons; rw [h1, Option.bind_some, h2]; rfl
theorem bTest_of {f : M D} {s s1 : S} {b : Bool} (h : f s = some (.bl b, s1)) : bTest f s = some (b, s1) := by unfold bTest; rw [h]; rfl
theorem bNot_of {f : M Bool} {s s1 : S} {b : Bool} (h : f s = some (b, s1)) : bNot f s = some (!b, s1) := by unfold bNot; rw [h]; rfl
theorem bObjs_of {tb : TruTab} {f : M D} {s s1 : S} {d : D} {b : Bool} (h : f s = some (d, s1)) (h2 : truD tb d = some b) : bObjs tb f s = some (b, s1) := by unfold bObjs; rw [h, Option.bind_some, h2]; rfl
theorem enum_ints {xs : List Int} {i : Nat} {d : D} (h : (enumD (xs.map .int))[i]? = some d) : ∃ y, xs[i]? = some y ∧ d = .tup [.int (i : Int), .int y] := by
  obtain ⟨x, hx, rfl⟩ := enumD_get h
  rw [List.getElem?_map] at hx
  cases e : xs[i]? with
  | none => rw [e] at hx; cases hx
  | some y =>
    rw [e] at hx
    cases hx
    exact ⟨y, rfl, rfl⟩
theorem get_ints {xs : List Int} {i : Nat} {d : D} (h : (xs.map D.int)[i]? = some d) : ∃ y, xs[i]? = some y ∧ d = .int y := by
  rw [List.getElem?_map] at h
  cases e : xs[i]? with
  | none => rw [e] at h; cases h
  | some y =>
    rw [e] at h
    cases h
    exact ⟨y, rfl, rfl⟩
theorem gIx0 (d : D) (ds : List D) : gIx (.lst (d :: ds)) (.int 0) = some d := L2.atI_nat (xs := d :: ds) (j := 0) rfl
theorem cApp_of {i : Nat} {f : M D} {s s1 : S} {d : D} {ys xs : List D} (h0 : ownL s i = some ys) (h1 : f s = some (d, s1)) (h2 : ownL s1 i = some xs) (hl : xs.length < lim) : cApp i f s = some (.nx (s1.put i (.own (.lst (xs ++ [d]))))) := by
  unfold cApp
  rw [h0, Option.bind_some, h1, Option.bind_some]
  simp only
  rw [h2, Option.bind_some, if_pos hl]
theorem zip_get {h : List Int} {j : Nat} {d : D} : (enumD (h.map .int))[j]? = some d ↔ ∃ y, h[j]? = some y ∧ d = .tup [.int (j : Int), .int y] := by
  constructor
  · exact enum_ints
  · rintro ⟨y, hy, rfl⟩
    unfold enumD
    rw [List.getElem?_map, List.getElem?_zipIdx, List.getElem?_map, hy]
    simp
/-- over the places and the numbers of a list -/
theorem eComp_enum {vs : List Nat} {b : Bd} {u : M Bool} {f : M D} {it : M (List D)} {s s1 : S} {h : List Int} {e : Nat → Int → Int} (h0 : it s = some (enumD (h.map .int), s1)) (hl : h.length ≤ lim)
    (hs : ∀ (j : Nat) (y : Int), h[j]? = some y → ∃ t1, b (.tup [.int (j : Int), .int y]) (s1.wipe vs) = some t1 ∧ ∃ t2, u t1 = some (true, t2) ∧ ∃ t3, f t2 = some (.int (e j y), t3) ∧ t3.wipe vs = s1.wipe vs) :
    eComp it vs b u f s = some (.lst ((h.mapIdx e).map .int), (s1.wipe vs).rest s1 vs) := by
  rw [eComp_pure (g := fun d => match d with | .tup [.int j, .int y] => some (.int (e j.toNat y)) | _ => none) h0 (by rw [enumD_len, List.length_map]; exact hl) fun d hd => ?_]
  · congr 3
    apply List.ext_getElem?
    intro j
    have : ∀ (l : List D) (g : D → Option D) (g' : D → D), (∀ d ∈ l, g d = some (g' d)) → l.filterMap g = l.map g' := fun l g g' hg => by
      induction l with
      | nil => rfl
      | cons x r ih => rw [List.filterMap_cons, hg x List.mem_cons_self, List.map_cons, ih fun d hd => hg d (List.mem_cons_of_mem _ hd)]
    rw [this _ _ (fun d => match d with | .tup [.int j, .int y] => .int (e j.toNat y) | _ => .non) fun d hd => ?_]
    · rw [List.getElem?_map, List.getElem?_map, List.getElem?_mapIdx]
      cases hj : h[j]? with
      | none =>
        have : (enumD (h.map .int))[j]? = none := by
          rw [List.getElem?_eq_none_iff, enumD_len, List.length_map]
          exact List.getElem?_eq_none_iff.mp hj
        rw [this]
        rfl
      | some y =>
        rw [zip_get.mpr ⟨y, hj, rfl⟩]
        simp
    · obtain ⟨j, hj⟩ := List.mem_iff_getElem?.mp hd
      obtain ⟨y, hy, rfl⟩ := enum_ints hj
      rfl
  · obtain ⟨j, hj⟩ := List.mem_iff_getElem?.mp hd
    obtain ⟨y, hy, rfl⟩ := enum_ints hj
    obtain ⟨t1, h1, t2, h2, t3, h3, h4⟩ := hs j y hy
    exact ⟨t1, h1, .inl ⟨t2, _, t3, h2, h3, h4, by simp⟩⟩
/-! ### dicts whose keys are tuples of ints -/
def keyT (k : List Int) : List L2.Key := k.map Sum.inl
theorem keyT_inj {a b : List Int} (h : keyT a = keyT b) : a = b := by
  induction a generalizing b with
  | nil =>
    cases b with
    | nil => rfl
    | cons y b => cases h
  | cons x a ih =>
    cases b with
    | nil => cases h
    | cons y b =>
      simp only [keyT, List.map_cons] at h
      injection h with h1 h2
      injection h1 with h1
      rw [h1, ih h2]
theorem tkeyD_ints (k : List Int) : tkeyD (.tup (k.map .int)) = some (keyT k) := by
  show keysD (k.map .int) = _
  induction k with
  | nil => rfl
  | cons x r ih => simp only [List.map_cons, keysD, keyD, Option.bind_some, ih, Option.map_some, keyT]
theorem valD_key {C : List (List Int × D)} {k : List Int} {d : D} (hn : (C.map (·.1)).Nodup) (h : (k, d) ∈ C) : valD (C.map fun q => keyT q.1) (C.map (·.2)) (keyT k) = some d := by
  induction C with
  | nil => cases h
  | cons q r ih =>
    have hn := List.nodup_cons.mp hn
    simp only [List.map_cons, valD]
    rcases List.mem_cons.mp h with e | h
    · rw [← e, if_pos rfl]
    · have ne : ¬ keyT q.1 = keyT k := fun z => hn.1 (List.mem_map.mpr ⟨_, h, (keyT_inj z).symm⟩)
      rw [if_neg ne, ih hn.2 h]
theorem valD_none {C : List (List Int × D)} {k : List Int} (h : k ∉ C.map (·.1)) : valD (C.map fun q => keyT q.1) (C.map (·.2)) (keyT k) = none := by
  induction C with
  | nil => rfl
  | cons q r ih =>
    simp only [List.map_cons, List.mem_cons, not_or] at h
    simp only [List.map_cons, valD]
    rw [if_neg fun z => h.1 (keyT_inj z).symm, ih h.2]
theorem putD_new {C : List (List Int × D)} {k : List Int} {d : D} (h : k ∉ C.map (·.1)) : putD (C.map fun q => keyT q.1) (C.map (·.2)) (keyT k) d = ((C ++ [(k, d)]).map fun q => keyT q.1, (C ++ [(k, d)]).map (·.2)) := by
  unfold putD
  rw [if_neg fun z => ?_]
  · simp
  · obtain ⟨q, hq, e⟩ := List.mem_map.mp z
    exact h (List.mem_map.mpr ⟨q, hq, keyT_inj e⟩)
end DL


set_option Elab.async false
set_option linter.all false
set_option maxRecDepth 100000
set_option maxHeartbeats 1000000
namespace DL
open PySem
/-! ### a law's draws -/
def dNum : St1 :=
  cSeq (cAsg (bTup 2 (bCons (bName 2) (bCons (bName 3) (bNil)))) (eIf (bTest (eOp gNe (eVarB 0) (eL (aNil) mkL))) (eL (aCons (eOp gIx (eVarB 0) (eOp gMod (eVarB 1) (eL (aCons (eVarB 0) (aNil)) gLen))) (aCons (eOp gDiv (eVarB 1) (eL (aCons (eVarB 0) (aNil)) gLen)) (aNil))) mkT) (eL (aCons (eC (.int 12345)) (aCons (eC (.int 0)) (aNil))) mkT))) (cSeq (cSet 4 (eIf (bTest (eOp gLt (eVarB 3) (eC (.int 60)))) (eOp gSub (eVarB 2) (eOp gPow (eC (.int 10)) (eC (.int 18)))) (eC (.int 0)))) (cSeq (cFor (eItL rg1 (aCons (eOp gMod (eL (aCons (eVarB 3) (aNil)) gInt) (eC (.int 60))) (aNil))) (bName 5) (cSet 4 (eOp gDiv (eVarB 4) (eC (.int 1009))))) (cSeq (cIf (bTest (eOp gGt (eVarB 4) (eC (.int 0)))) (cRet (eOp gMod (eL (aCons (eVarB 4) (aNil)) gInt) (eC (.int 1009)))) (cNext)) (cSeq (cSet 6 (eOp gMod (eOp gAdd (eOp gMul (eL (aCons (eOp gAdd (eVarB 2) (eOp gMul (eC (.int 977)) (eVarB 1))) (aNil)) gInt) (eC (.int 48271))) (eOp gMul (eC (.int 31)) (eL (aCons (eVarB 0) (aNil)) gLen))) (eC (.int 2147483647)))) (cSeq (cSet 6 (eOp gMod (eOp gAdd (eOp gMul (eVarB 6) (eVarB 6)) (eOp gMul (eC (.int 40503)) (eVarB 1))) (eC (.int 2147483629)))) (cRet (eL (aCons (eOp gMod (eOp gAdd (eOp gMul (eVarB 6) (eC (.int 69621))) (eOp gDiv (eVarB 6) (eC (.int 977)))) (eC (.int 2147483587))) (aNil)) gInt)))))))
def dTake : St1 :=
  cSeq (cTick 0) (cRet (eOp gMod (eL (aCons (eL (aCons (eDrw0 0) (aCons (eL (aCons (eDrw1 0) (aNil)) gInt) (aNil))) (runP 7 dNum)) (aNil)) gInt) (eVarB 1)))
def dPick : St1 :=
  cRet (eOp gIx (eVarB 1) (eCallE 0 (runE 1 dTake) (aCons (eL (aCons (eVarB 1) (aNil)) gLen) (aNil))))
theorem fmod_lt {i m : Int} (h : 0 < m) : 0 ≤ i.fmod m ∧ i.fmod m < m := ⟨Int.fmod_nonneg_of_pos i h, Int.fmod_lt_of_pos i h⟩
theorem eIf_tt {c : M Bool} {f g : M D} {s s1 : S} (h : c s = some (true, s1)) : eIf c f g s = f s1 := by unfold eIf; rw [h]; rfl
theorem eIf_ff {c : M Bool} {f g : M D} {s s1 : S} (h : c s = some (false, s1)) : eIf c f g s = g s1 := by unfold eIf; rw [h]; rfl
theorem cMul_l {i j : Int} (h : -(2 ^ 64) < i ∧ i < 2 ^ 64) : gMul (.int i) (.int j) = some (.int (i * j)) := by
  show (if L2.CMul i j then _ else _) = _
  rw [if_pos (.inl h)]
theorem cMul_r {i j : Int} (h : -(2 ^ 64) < j ∧ j < 2 ^ 64) : gMul (.int i) (.int j) = some (.int (i * j)) := by
  show (if L2.CMul i j then _ else _) = _
  rw [if_pos (.inr h)]
theorem cMod {i j : Int} (h : j ≠ 0) : gMod (.int i) (.int j) = some (.int (i.fmod j)) := by
  show (if j ≠ 0 then _ else _) = _
  rw [if_pos h]
theorem cDiv {i j : Int} (h : j ≠ 0) (h2 : j.natAbs < 1073741824) : gDiv (.int i) (.int j) = some (.int (i.fdiv j)) := by
  show (if L2.CDivN i j then _ else _) = _
  rw [if_pos ⟨h, h2⟩]
theorem cAsg_of {b : Bd} {f : M D} {s s1 s2 : S} {d : D} (h : f s = some (d, s1)) (h2 : b d s1 = some s2) : cAsg b f s = some (.nx s2) := by unfold cAsg; rw [h, Option.bind_some, h2]; rfl
theorem num_ok {ns : List Int} (hl : ns.length ≤ 63) (k : Nat) : ∃ v : Int, runP 7 dNum [.scr ns, .int k] = some (.int v) := by
  unfold runP dNum
  rw [show argE 7 [.scr ns, .int k] = [.val (.scr ns), .val (.int k), .no, .no, .no, .no, .no] from rfl]
  let st := fun (c t : Int) (r y b : Sl) => (⟨[.val (.scr ns), .val (.int k), .val (.int c), .val (.int t), r, y, b], 0, []⟩ : S)
  let s0 : S := ⟨[.val (.scr ns), .val (.int k), .no, .no, .no, .no, .no], 0, []⟩
  have mk2 : ∀ a b : Int, mkT [.int a, .int b] = some (.tup [.int a, .int b]) := fun a b => by
    unfold mkT
    rw [if_pos (by show 2 ≤ lim; unfold lim; omega)]
  have h1 : ∃ c t : Int, 0 ≤ t ∧ cAsg (bTup 2 (bCons (bName 2) (bCons (bName 3) (bNil)))) (eIf (bTest (eOp gNe (eVarB 0) (eL (aNil) mkL))) (eL (aCons (eOp gIx (eVarB 0) (eOp gMod (eVarB 1) (eL (aCons (eVarB 0) (aNil)) gLen))) (aCons (eOp gDiv (eVarB 1) (eL (aCons (eVarB 0) (aNil)) gLen)) (aNil))) mkT) (eL (aCons (eC (.int 12345)) (aCons (eC (.int 0)) (aNil))) mkT)) s0 = some (.nx (st c t .no .no .no)) := by
    have hmk : mkL [] = some (.lst []) := by
      unfold mkL
      rw [if_pos (show ([] : List D).length ≤ lim from Nat.zero_le _)]
    have ht : bTest (eOp gNe (eVarB 0) (eL (aNil) mkL)) s0 = some (decide (ns ≠ []), s0) := bTest_of (eOp_of (d1 := .scr ns) (d2 := .lst []) rfl (eL_of rfl hmk) (by
      unfold gNe
      rw [eqD_scr]
      simp))
    by_cases hn : ns = []
    · have ht' : bTest (eOp gNe (eVarB 0) (eL (aNil) mkL)) s0 = some (false, s0) := by rw [ht]; simp [hn]
      refine ⟨12345, 0, by omega, cAsg_of (s1 := s0) (d := .tup [.int 12345, .int 0]) ?_ rfl⟩
      rw [eIf_ff ht']
      exact eL_of rfl (mk2 _ _)
    · have ht' : bTest (eOp gNe (eVarB 0) (eL (aNil) mkL)) s0 = some (true, s0) := by rw [ht]; simp [hn]
      have hp : 0 < ns.length := List.length_pos_iff.mpr hn
      have f1 := fmod_lt (i := (k : Int)) (m := (ns.length : Int)) (by omega)
      have hlen : eL (aCons (eVarB 0) (aNil)) gLen s0 = some (.int ns.length, s0) := rfl
      obtain ⟨c, hc⟩ : ∃ c, ns[((k : Int).fmod (ns.length : Int)).toNat]? = some c := ⟨ns[((k : Int).fmod (ns.length : Int)).toNat]'(by omega), by simp⟩
      refine ⟨c, (k : Int).fdiv (ns.length : Int), Int.fdiv_nonneg (by omega) (by omega), cAsg_of (s1 := s0) (d := .tup [.int c, .int ((k : Int).fdiv (ns.length : Int))]) ?_ rfl⟩
      rw [eIf_tt ht']
      refine eL_of (aCons_of (eOp_of (d := .int c) rfl (eOp_of rfl hlen (cMod (by omega))) ?_) (aCons_of (eOp_of rfl hlen (cDiv (by omega) (by omega))) rfl)) (mk2 _ _)
      show (L2.atI ns ((k : Int).fmod (ns.length : Int))).map D.int = _
      rw [atI_int f1.1 f1.2, hc]
      rfl
  obtain ⟨c, t, ht0, h1⟩ := h1
  rw [cSeq_nx h1]
  obtain ⟨r, h2⟩ : ∃ r : Int, cSet 4 (eIf (bTest (eOp gLt (eVarB 3) (eC (.int 60)))) (eOp gSub (eVarB 2) (eOp gPow (eC (.int 10)) (eC (.int 18)))) (eC (.int 0))) (st c t .no .no .no) = some (.nx (st c t (.val (.int r)) .no .no)) := by
    have hb : bTest (eOp gLt (eVarB 3) (eC (.int 60))) (st c t .no .no .no) = some (decide (t < 60), st c t .no .no .no) := rfl
    by_cases q : t < 60
    · have hb' : bTest (eOp gLt (eVarB 3) (eC (.int 60))) (st c t .no .no .no) = some (true, st c t .no .no .no) := by rw [hb]; simp [q]
      refine ⟨c - 10 ^ 18, cSet_of (s := st c t .no .no .no) (s1 := st c t .no .no .no) ?_⟩
      rw [eIf_tt hb']
      refine eOp_of (d1 := .int c) (d2 := .int (10 ^ 18)) rfl (eOp_of rfl rfl ?_) rfl
      show (if L2.CPow 10 18 then some (D.int (10 ^ (18 : Int).toNat)) else none) = _
      rw [if_pos ⟨by decide, by decide, by decide⟩]
      rfl
    · have hb' : bTest (eOp gLt (eVarB 3) (eC (.int 60))) (st c t .no .no .no) = some (false, st c t .no .no .no) := by rw [hb]; simp [q]
      refine ⟨0, cSet_of (s := st c t .no .no .no) (s1 := st c t .no .no .no) ?_⟩
      rw [eIf_ff hb']
      rfl
  rw [cSeq_nx h2]
  have f60 := fmod_lt (i := t) (m := 60) (by omega)
  obtain ⟨s', h3, r', y, rfl⟩ := cFor_inv (P := fun _ s => ∃ (r : Int) (y : Sl), s = st c t (.val (.int r)) y .no) (items := rangeD 0 (t.fmod 60).toNat) (s := st c t (.val (.int r)) .no .no) (s1 := st c t (.val (.int r)) .no .no)
    (it := eItL rg1 (aCons (eOp gMod (eL (aCons (eVarB 3) (aNil)) gInt) (eC (.int 60))) (aNil))) (b := bName 5) (body := cSet 4 (eOp gDiv (eVarB 4) (eC (.int 1009)))) (by
      unfold eItL
      rw [aCons_of (d := .int (t.fmod 60)) (s1 := st c t (.val (.int r)) .no .no) (ds := []) (s2 := st c t (.val (.int r)) .no .no) (eOp_of rfl rfl (cMod (by omega))) rfl]
      show (rg1 [.int (t.fmod 60)]).map _ = _
      unfold rg1
      simp only
      rw [if_pos (by omega)]
      rfl) ⟨r, .no, rfl⟩ (fun i d s hi ⟨r, y, e⟩ => by
      subst e
      refine ⟨st c t (.val (.int r)) (.val d) .no, rfl, st c t (.val (.int (r.fdiv 1009))) (.val d) .no, .inl (cSet_of (s := st c t (.val (.int r)) (.val d) .no) (s1 := st c t (.val (.int r)) (.val d) .no) (eOp_of rfl rfl (cDiv (by omega) (by decide)))), _, _, rfl⟩)
  rw [cSeq_nx h3]
  let s3 := st c t (.val (.int r')) y .no
  have hb : bTest (eOp gGt (eVarB 4) (eC (.int 0))) s3 = some (decide (0 < r'), s3) := rfl
  by_cases q : 0 < r'
  · refine ⟨r'.fmod 1009, ?_⟩
    rw [cSeq_rt (d := .int (r'.fmod 1009)) (s1 := s3) ((cIf_tt (s1 := s3) (by rw [hb]; simp [q])).trans (cRet_of (s := s3) (s1 := s3) (eOp_of (s1 := s3) (s2 := s3) (d1 := .int r') rfl rfl (cMod (by omega)))))]
  · rw [cSeq_nx (s1 := s3) ((cIf_ff (s1 := s3) (by rw [hb]; simp [q])).trans rfl)]
    have g1 := fmod_lt (i := (c + 977 * (k : Int)) * 48271 + 31 * (ns.length : Int)) (m := 2147483647) (by omega)
    generalize hb1 : ((c + 977 * (k : Int)) * 48271 + 31 * (ns.length : Int)).fmod 2147483647 = b1 at g1
    rw [cSeq_nx (s1 := st c t (.val (.int r')) y (.val (.int b1))) (by
      rw [← hb1]
      refine cSet_of (s := s3) (s1 := s3) (eOp_of (d1 := .int ((c + 977 * (k : Int)) * 48271 + 31 * (ns.length : Int))) (eOp_of (d1 := .int ((c + 977 * (k : Int)) * 48271)) (d2 := .int (31 * (ns.length : Int))) (eOp_of (d1 := .int (c + 977 * (k : Int))) (eL_of (ds := [.int (c + 977 * (k : Int))]) (aCons_of (eOp_of (d1 := .int c) (d2 := .int (977 * (k : Int))) rfl (eOp_of rfl rfl (cMul_l (by decide))) rfl) rfl) rfl) rfl (cMul_r (by decide))) (eOp_of (d2 := .int ns.length) rfl rfl (cMul_l (by decide))) rfl) rfl (cMod (by omega))))]
    have g2 := fmod_lt (i := b1 * b1 + 40503 * (k : Int)) (m := 2147483629) (by omega)
    generalize hb2 : (b1 * b1 + 40503 * (k : Int)).fmod 2147483629 = b2 at g2
    rw [cSeq_nx (s1 := st c t (.val (.int r')) y (.val (.int b2))) (by
      rw [← hb2]
      exact cSet_of (s := st c t (.val (.int r')) y (.val (.int b1))) (s1 := st c t (.val (.int r')) y (.val (.int b1))) (eOp_of (d1 := .int (b1 * b1 + 40503 * (k : Int))) (eOp_of (d1 := .int (b1 * b1)) (d2 := .int (40503 * (k : Int))) (eOp_of rfl rfl (cMul_l (by omega))) (eOp_of rfl rfl (cMul_l (by decide))) rfl) rfl (cMod (by omega))))]
    refine ⟨(b2 * 69621 + b2.fdiv 977).fmod 2147483587, ?_⟩
    rw [cRet_of (s1 := st c t (.val (.int r')) y (.val (.int b2))) (d := .int ((b2 * 69621 + b2.fdiv 977).fmod 2147483587)) (eL_of (ds := [.int ((b2 * 69621 + b2.fdiv 977).fmod 2147483587)]) (aCons_of (eOp_of (d1 := .int (b2 * 69621 + b2.fdiv 977)) (eOp_of (d1 := .int (b2 * 69621)) (d2 := .int (b2.fdiv 977)) (eOp_of rfl rfl (cMul_r (by decide))) (eOp_of rfl rfl (cDiv (by omega) (by decide))) rfl) rfl (cMod (by omega))) rfl) rfl)]
theorem take_ok {ns : List Int} (hl : ns.length ≤ 63) (k : Nat) {m : Int} (hm : 0 < m) : ∃ r : Int, runE 1 dTake [.int m] k ns = some (.int r, k + 1) ∧ 0 ≤ r ∧ r < m := by
  obtain ⟨v, hv⟩ := num_ok hl (k + 1)
  have f := fmod_lt (i := v) hm
  refine ⟨v.fmod m, ?_, f⟩
  unfold runE dTake
  rw [show argE 1 [.int m] = [.val (.int m)] from rfl]
  rw [cSeq_nx (s1 := ⟨[.drw, .val (.int m)], k + 1, ns⟩) rfl]
  rw [cRet_of (s1 := ⟨[.drw, .val (.int m)], k + 1, ns⟩) (d := .int (v.fmod m)) (eOp_of (d1 := .int v) (d2 := .int m) (eL_of (ds := [.int v]) (aCons_of (eL_of (ds := [.scr ns, .int (k + 1 : Nat)]) rfl hv) rfl) rfl) rfl (cMod (by omega)))]
theorem pick_ok {ns : List Int} (hl : ns.length ≤ 63) (k : Nat) {xs : List D} (hx : xs ≠ []) : ∃ d, d ∈ xs ∧ runE 1 dPick [.lst xs] k ns = some (d, k + 1) := by
  have hp : 0 < xs.length := List.length_pos_iff.mpr hx
  obtain ⟨r, h1, h2, h3⟩ := take_ok hl k (m := (xs.length : Int)) (by omega)
  obtain ⟨d, hd⟩ : ∃ d, xs[r.toNat]? = some d := ⟨xs[r.toNat]'(by omega), by simp⟩
  refine ⟨d, List.mem_of_getElem? hd, ?_⟩
  unfold runE dPick
  rw [show argE 1 [.lst xs] = [.bor (.lst xs)] from rfl]
  have e1 : eCallE 0 (runE 1 dTake) (aCons (eL (aCons (eVarB 1) (aNil)) gLen) (aNil)) ⟨[.drw, .bor (.lst xs)], k, ns⟩ = some (.int r, ⟨[.drw, .bor (.lst xs)], k + 1, ns⟩) := by
    unfold eCallE
    show Option.bind _ _ = _
    rw [aCons_of (d := .int xs.length) (ds := []) (s1 := ⟨[.drw, .bor (.lst xs)], k, ns⟩) (s2 := ⟨[.drw, .bor (.lst xs)], k, ns⟩) rfl rfl, Option.bind_some]
    show (runE 1 dTake [.int xs.length] k ns).map _ = _
    rw [h1]
    rfl
  rw [cRet_of (s1 := ⟨[.drw, .bor (.lst xs)], k + 1, ns⟩) (d := d) (eOp_of (d1 := .lst xs) (d2 := .int r) rfl e1 (by
    show L2.atI xs r = _
    rw [atI_int h2 h3]
    exact hd))]
end DL


set_option Elab.async false
set_option linter.all false
set_option maxRecDepth 100000
set_option maxHeartbeats 1000000
namespace DL
open PySem
/-! ### more of what is computed -/
theorem inV_ints (i : Int) : ∀ xs : List Int, L2.inV (.int i) ((xs.map D.int).map toV) = decide (i ∈ xs)
  | [] => by simp [L2.inV]
  | x :: xs => by
    have ih := inV_ints i xs
    unfold L2.inV at ih ⊢
    rw [List.map_cons, List.map_cons, List.any_cons, ih]
    have e : L2.eqV (toV (.int x)) (.int i) = decide (i = x) := by
      show (x == i) = _
      by_cases h : i = x
      · simp [h]
      · have h' : ¬ x = i := fun z => h z.symm
        simp [h, h']
    rw [e]
    by_cases h : i = x
    · simp [h]
    · simp [h]
theorem all_flat (xs : List Int) : (xs.map D.int).all flatD = true := by
  rw [List.all_eq_true]
  intro d hd
  obtain ⟨x, _, rfl⟩ := List.mem_map.mp hd
  rfl
theorem inD_ints (neg : Bool) (i : Int) (xs : List Int) : inD neg (.int i) (.lst (xs.map .int)) = some (.bl (if neg then !decide (i ∈ xs) else decide (i ∈ xs))) := by
  unfold inD
  show (if _ then some (D.bl (if neg then !L2.inV (.int i) ((xs.map D.int).map toV) else L2.inV (.int i) ((xs.map D.int).map toV))) else none) = _
  rw [if_pos ⟨rfl, all_flat xs⟩, inV_ints]
section
variable {vs : List Nat} {b : Bd} {u : M Bool} {f : M D} {it : M (List D)}
/-- a list made by drawing -/
theorem compLoop_ex {s0 : Nat → S} {Q : D → Prop} : ∀ {items : List D} (acc : List D) (k : Nat), acc.length + items.length ≤ lim →
    (∀ d ∈ items, ∀ k, ∃ s1, b d (s0 k) = some s1 ∧ ((∃ s2 y s3 k', u s1 = some (true, s2) ∧ f s2 = some (y, s3) ∧ s3.wipe vs = s0 k' ∧ Q y) ∨ ∃ s2 k', u s1 = some (false, s2) ∧ s2.wipe vs = s0 k')) →
    ∃ ys k', compLoop vs b u f items acc (s0 k) = some (acc ++ ys, s0 k') ∧ ∀ y ∈ ys, Q y
  | [], acc, k, _, _ => ⟨[], k, by simp [compLoop], fun y hy => by cases hy⟩
  | d :: r, acc, k, hl, h => by
    obtain ⟨s1, h1, h2⟩ := h d List.mem_cons_self k
    simp only [List.length_cons] at hl
    rw [compLoop, h1, Option.bind_some]
    rcases h2 with ⟨s2, y, s3, k1, h3, h4, h5, h6⟩ | ⟨s2, k1, h3, h5⟩
    · obtain ⟨ys, k', e, hq⟩ := compLoop_ex (acc ++ [y]) k1 (by simp; omega) fun d hd => h d (List.mem_cons_of_mem _ hd)
      refine ⟨y :: ys, k', ?_, fun z hz => ?_⟩
      · rw [h3, Option.bind_some]
        simp only [if_true]
        rw [h4, Option.bind_some]
        simp only
        rw [if_pos (by omega), h5, e]
        simp
      · rcases List.mem_cons.mp hz with rfl | hz
        · exact h6
        · exact hq z hz
    · obtain ⟨ys, k', e, hq⟩ := compLoop_ex acc k1 (by omega) fun d hd => h d (List.mem_cons_of_mem _ hd)
      refine ⟨ys, k', ?_, hq⟩
      rw [h3, Option.bind_some]
      simp only [if_false, Bool.false_eq_true]
      rw [h5, e]
theorem compLoop_all {s0 : Nat → S} {Q : D → Prop} : ∀ {items : List D} (acc : List D) (k : Nat), acc.length + items.length ≤ lim →
    (∀ d ∈ items, ∀ k, ∃ s1, b d (s0 k) = some s1 ∧ ∃ s2 y s3 k', u s1 = some (true, s2) ∧ f s2 = some (y, s3) ∧ s3.wipe vs = s0 k' ∧ Q y) →
    ∃ ys k', compLoop vs b u f items acc (s0 k) = some (acc ++ ys, s0 k') ∧ (∀ y ∈ ys, Q y) ∧ ys.length = items.length
  | [], acc, k, _, _ => ⟨[], k, by simp [compLoop], fun y hy => (by cases hy), rfl⟩
  | d :: r, acc, k, hl, h => by
    obtain ⟨s1, h1, s2, y, s3, k1, h3, h4, h5, h6⟩ := h d List.mem_cons_self k
    simp only [List.length_cons] at hl
    rw [compLoop, h1, Option.bind_some]
    obtain ⟨ys, k', e, hq, hlen⟩ := compLoop_all (acc ++ [y]) k1 (by simp; omega) fun d hd => h d (List.mem_cons_of_mem _ hd)
    refine ⟨y :: ys, k', ?_, fun z hz => ?_, by simp [hlen]⟩
    · rw [h3, Option.bind_some]
      simp only [if_true]
      rw [h4, Option.bind_some]
      simp only
      rw [if_pos (by omega), h5, e]
      simp
    · rcases List.mem_cons.mp hz with rfl | hz
      · exact h6
      · exact hq z hz
end
/-- data of one kind are of that kind's list -/
theorem ints_of {Q : Int → Prop} : ∀ {ys : List D}, (∀ y ∈ ys, ∃ i, y = .int i ∧ Q i) → ∃ E : List Int, ys = E.map .int ∧ ∀ i ∈ E, Q i
  | [], _ => ⟨[], rfl, fun i hi => by cases hi⟩
  | y :: ys, h => by
    obtain ⟨i, rfl, hi⟩ := h y List.mem_cons_self
    obtain ⟨E, rfl, hE⟩ := ints_of (Q := Q) fun y hy => h y (List.mem_cons_of_mem _ hy)
    exact ⟨i :: E, rfl, fun j hj => by
      rcases List.mem_cons.mp hj with rfl | hj
      · exact hi
      · exact hE j hj⟩
theorem rep_ints (n : Nat) (hn : n ≤ 1000) : gRep (.lst [.int 0]) (.int n) = some (.lst ((List.replicate n (0 : Int)).map .int)) := by
  unfold gRep
  simp only
  rw [if_pos]
  · congr 2
    rw [Int.toNat_natCast]
    induction n with
    | zero => rfl
    | succ n ih => rw [List.replicate_succ, List.flatten_cons, ih (by omega), List.replicate_succ, List.map_cons]; rfl
  · simp
    unfold lim
    omega
end DL


set_option Elab.async false
set_option linter.all false
set_option maxRecDepth 100000
set_option maxHeartbeats 4000000
namespace K77
open PySem L2 DL
open Evl (Ex)

/-! ### the text by places -/
def top (i : Nat) : Stmt := PySem.Challenge.pw_onetenants_k77_across_space.main.body.getD i (.Pass ⟨0, 0, 0, 0⟩)
abbrev s__law_number : Stmt := top 17
abbrev N__law_number : List Str := ["script", "index", "cell", "turn", "rest", "step", "blend"]
theorem sc__law_number : FnScope N__law_number ["script", "index"] (C8.fnScope s__law_number) := C8.fnScope_by (by decide +kernel)
abbrev s__law_take : Stmt := top 18
abbrev N__law_take : List Str := ["draw", "many"]
theorem sc__law_take : FnScope N__law_take ["draw", "many"] (C8.fnScope s__law_take) := C8.fnScope_by (by decide +kernel)
abbrev s_is_integer : Stmt := top 3
abbrev N_is_integer : List Str := ["thing"]
theorem sc_is_integer : FnScope N_is_integer ["thing"] (C8.fnScope s_is_integer) := C8.fnScope_by (by decide +kernel)
abbrev s_is_number : Stmt := top 5
abbrev N_is_number : List Str := ["thing", "least", "most"]
theorem sc_is_number : FnScope N_is_number ["thing", "least", "most"] (C8.fnScope s_is_number) := C8.fnScope_by (by decide +kernel)
abbrev s_is_row : Stmt := top 4
abbrev N_is_row : List Str := ["thing"]
theorem sc_is_row : FnScope N_is_row ["thing"] (C8.fnScope s_is_row) := C8.fnScope_by (by decide +kernel)
abbrev s_Space_init : Stmt := inClass (top 8) 0
abbrev N_Space_init : List Str := ["self", "places", "claims", "number", "claim"]
theorem sc_Space_init : FnScope N_Space_init ["self", "places", "claims"] (C8.fnScope s_Space_init) := C8.fnScope_by (by decide +kernel)
abbrev s_CanEnd_bool : Stmt := inClass (top 10) 1
abbrev N_CanEnd_bool : List Str := ["self"]
theorem sc_CanEnd_bool : FnScope N_CanEnd_bool ["self"] (C8.fnScope s_CanEnd_bool) := C8.fnScope_by (by decide +kernel)
abbrev s_Stuck_bool : Stmt := inClass (top 11) 1
abbrev N_Stuck_bool : List Str := ["self"]
theorem sc_Stuck_bool : FnScope N_Stuck_bool ["self"] (C8.fnScope s_Stuck_bool) := C8.fnScope_by (by decide +kernel)
abbrev s_check_held : Stmt := top 9
abbrev N_check_held : List Str := ["space", "held", "number", "many"]
theorem sc_check_held : FnScope N_check_held ["space", "held"] (C8.fnScope s_check_held) := C8.fnScope_by (by decide +kernel)
abbrev s_Stuck_init : Stmt := inClass (top 11) 0
abbrev N_Stuck_init : List Str := ["self", "numbers"]
theorem sc_Stuck_init : FnScope N_Stuck_init ["self", "numbers"] (C8.fnScope s_Stuck_init) := C8.fnScope_by (by decide +kernel)
abbrev s_CanEnd_init : Stmt := inClass (top 10) 0
abbrev N_CanEnd_init : List Str := ["self", "order"]
theorem sc_CanEnd_init : FnScope N_CanEnd_init ["self", "order"] (C8.fnScope s_CanEnd_init) := C8.fnScope_by (by decide +kernel)
abbrev s_judge_space : Stmt := top 12
abbrev N_judge_space : List Str := ["space", "held", "free", "order", "rest", "near", "number"]
theorem sc_judge_space : FnScope N_judge_space ["space", "held"] (C8.fnScope s_judge_space) := C8.fnScope_by (by decide +kernel)
abbrev s_first_stuck : Stmt := top 15
abbrev N_first_stuck : List Str := ["space", "first", "came", "rest", "at", "held", "number", "many", "late"]
theorem sc_first_stuck : FnScope N_first_stuck ["space"] (C8.fnScope s_first_stuck) := C8.fnScope_by (by decide +kernel)
abbrev s_good_steps : Stmt := top 13
abbrev N_good_steps : List Str := ["space", "held", "found", "number", "many", "late", "at", "one"]
theorem sc_good_steps : FnScope N_good_steps ["space", "held"] (C8.fnScope s_good_steps) := C8.fnScope_by (by decide +kernel)
abbrev s__law_pick : Stmt := top 19
abbrev N__law_pick : List Str := ["draw", "items"]
theorem sc__law_pick : FnScope N__law_pick ["draw", "items"] (C8.fnScope s__law_pick) := C8.fnScope_by (by decide +kernel)
abbrev s_enough_places : Stmt := top 14
abbrev N_enough_places : List Str := ["claims", "rows", "claim"]
theorem sc_enough_places : FnScope N_enough_places ["claims"] (C8.fnScope s_enough_places) := C8.fnScope_by (by decide +kernel)
abbrev s_Stuck_shows : Stmt := inClass (top 11) 3
abbrev N_Stuck_shows : List Str := ["self", "space", "held", "free", "number"]
theorem sc_Stuck_shows : FnScope N_Stuck_shows ["self", "space", "held"] (C8.fnScope s_Stuck_shows) := C8.fnScope_by (by decide +kernel)
abbrev s_law : Stmt := top 20
abbrev N_law : List Str := ["script", "draw", "turn", "places", "claims", "space", "held", "found", "near", "number", "late", "free", "ends", "way", "claim", "at", "many"]
theorem sc_law : FnScope N_law ["script"] (C8.fnScope s_law) := C8.fnScope_by (by decide +kernel)

/-! ### what each def computes -/
def it_Space : List (Nat × Bool) := [(0, true)]
def is_Space : List String := []
def d__law_number : St1 :=
  cSeq (cAsg (bTup 2 (bCons (bName 2) (bCons (bName 3) (bNil)))) (eIf (bTest (eOp gNe (eVarB 0) (eL (aNil) mkL))) (eL (aCons (eOp gIx (eVarB 0) (eOp gMod (eVarB 1) (eL (aCons (eVarB 0) (aNil)) gLen))) (aCons (eOp gDiv (eVarB 1) (eL (aCons (eVarB 0) (aNil)) gLen)) (aNil))) mkT) (eL (aCons (eC (.int 12345)) (aCons (eC (.int 0)) (aNil))) mkT))) (cSeq (cSet 4 (eIf (bTest (eOp gLt (eVarB 3) (eC (.int 60)))) (eOp gSub (eVarB 2) (eOp gPow (eC (.int 10)) (eC (.int 18)))) (eC (.int 0)))) (cSeq (cFor (eItL rg1 (aCons (eOp gMod (eL (aCons (eVarB 3) (aNil)) gInt) (eC (.int 60))) (aNil))) (bName 5) (cSet 4 (eOp gDiv (eVarB 4) (eC (.int 1009))))) (cSeq (cIf (bTest (eOp gGt (eVarB 4) (eC (.int 0)))) (cRet (eOp gMod (eL (aCons (eVarB 4) (aNil)) gInt) (eC (.int 1009)))) (cNext)) (cSeq (cSet 6 (eOp gMod (eOp gAdd (eOp gMul (eL (aCons (eOp gAdd (eVarB 2) (eOp gMul (eC (.int 977)) (eVarB 1))) (aNil)) gInt) (eC (.int 48271))) (eOp gMul (eC (.int 31)) (eL (aCons (eVarB 0) (aNil)) gLen))) (eC (.int 2147483647)))) (cSeq (cSet 6 (eOp gMod (eOp gAdd (eOp gMul (eVarB 6) (eVarB 6)) (eOp gMul (eC (.int 40503)) (eVarB 1))) (eC (.int 2147483629)))) (cRet (eL (aCons (eOp gMod (eOp gAdd (eOp gMul (eVarB 6) (eC (.int 69621))) (eOp gDiv (eVarB 6) (eC (.int 977)))) (eC (.int 2147483587))) (aNil)) gInt)))))))
def f__law_number : List D → Option D := runP 7 d__law_number
def d__law_take : St1 :=
  cSeq (cTick 0) (cRet (eOp gMod (eL (aCons (eL (aCons (eDrw0 0) (aCons (eL (aCons (eDrw1 0) (aNil)) gInt) (aNil))) f__law_number) (aNil)) gInt) (eVarB 1)))
def f__law_take : List D → Nat → List Int → Option (D × Nat) := runE 1 d__law_take
def d_is_integer : St1 :=
  cRet (eAnd (eUn (gIsi ["int"]) (eVarB 0)) (eNot (eUn (gIsi ["bool"]) (eVarB 0))))
def f_is_integer : List D → Option D := runP 1 d_is_integer
def d_is_number : St1 :=
  cRet (eAnd (eL (aCons (eVarB 0) (aNil)) f_is_integer) (eChain gLe gLe (eVarB 1) (eVarB 0) (eVarB 2)))
def f_is_number : List D → Option D := runP 3 d_is_number
def d_is_row : St1 :=
  cRet (eUn (gIsi ["list", "tuple"]) (eVarB 0))
def f_is_row : List D → Option D := runP 1 d_is_row
def d_Space_init : St1 :=
  cSeq (cIf (bNot (bTest (eL (aCons (eVarB 1) (aCons (eC (.int 0)) (aCons (eC (.int 12)) (aNil)))) f_is_number))) (cNever) (cNext)) (cSeq (cIf (bOr (bNot (bTest (eL (aCons (eVarB 2) (aNil)) f_is_row))) (bNot (bTest (eChain gLe gLe (eC (.int 1)) (eL (aCons (eVarB 2) (aNil)) gLen) (eC (.int 4)))))) (cNever) (cNext)) (cSeq (cFor (eItL enLT (aCons (eVarL 2) (aNil))) (bTup 2 (bCons (bName 3) (bCons (bName 4) (bNil)))) (cIf (bNot (bTest (eL (aCons (eVarB 4) (aCons (eC (.int 0)) (aCons (eC (.int 6)) (aNil)))) f_is_number))) (cNever) (cNext))) (cSeq (cFld 0 0 0 (eVar 1)) (cFld 0 0 1 (eL (aCons (eVarB 2) (aNil)) gTuple)))))
def f_Space_init : List D → Option (List D) := runI 0 4 2 d_Space_init
def d_CanEnd_bool : St1 :=
  cRet (eC (.bl true))
def f_CanEnd_bool : List D → Option D := runP 1 d_CanEnd_bool
def d_Stuck_bool : St1 :=
  cRet (eC (.bl false))
def f_Stuck_bool : List D → Option D := runP 1 d_Stuck_bool
def d_check_held : St1 :=
  cSeq (cIf (bNot (bTest (eUn (gIsC it_Space is_Space) (eVarB 0)))) (cNever) (cNext)) (cSeq (cIf (bOr (bNot (bTest (eL (aCons (eVarB 1) (aNil)) f_is_row))) (bTest (eOp gNe (eL (aCons (eVarB 1) (aNil)) gLen) (eL (aCons (eAttr 0 1 (eVarB 0)) (aNil)) gLen)))) (cNever) (cNext)) (cSeq (cFor (eItL enLT (aCons (eVarL 1) (aNil))) (bTup 2 (bCons (bName 2) (bCons (bName 3) (bNil)))) (cIf (bNot (bTest (eL (aCons (eVarB 3) (aCons (eC (.int 0)) (aCons (eOp gIx (eAttr 0 1 (eVarB 0)) (eVarB 2)) (aNil)))) f_is_number))) (cNever) (cNext))) (cIf (bTest (eOp gGt (eL (aCons (eL (aCons (eVarB 1) (aNil)) gList) (aNil)) gSumA) (eAttr 0 0 (eVarB 0)))) (cNever) (cNext))))
def f_check_held : List D → Option D := runP 4 d_check_held
def d_Stuck_init : St1 :=
  cFld 1 0 0 (eL (aCons (eVarB 1) (aNil)) gTuple)
def f_Stuck_init : List D → Option (List D) := runI 1 1 1 d_Stuck_init
def d_CanEnd_init : St1 :=
  cFld 2 0 0 (eL (aCons (eVarB 1) (aNil)) gTuple)
def f_CanEnd_init : List D → Option (List D) := runI 2 1 1 d_CanEnd_init
def d_judge_space : St1 :=
  cSeq (cDrop (eL (aCons (eVarB 0) (aCons (eVarB 1) (aNil))) f_check_held)) (cSeq (cPar [2, 3] (xVal (eOp gSub (eAttr 0 0 (eVarB 0)) (eL (aCons (eL (aCons (eVarB 1) (aNil)) gList) (aNil)) gSumA)) (xOwn (eL (aNil) mkL) (xNil)))) (cSeq (cSetF 4 (eUn gLR1 (eL (aCons (eVarB 1) (aNil)) gLen))) (cSeq (cWhile fuel (bTest (eOp gNe (eVarB 4) (eL (aNil) mkL))) (cSeq (cSetF 5 (eComp (eIt asSeq (eVarB 4)) [6] (bName 6) (bTest (eOp gLe (eOp gSub (eOp gIx (eAttr 0 1 (eVarB 0)) (eVarB 6)) (eOp gIx (eVarB 1) (eVarB 6))) (eVarB 2))) (eVar 6))) (cSeq (cIf (bTest (eOp gEq (eVarB 5) (eL (aNil) mkL))) (cRet (eL (aCons (eVarB 4) (aNil)) (fun ds => (f_Stuck_init ds).map (.obj 1)))) (cNext)) (cSeq (cApp 3 (eOp gIx (eVarB 5) (eC (.int 0)))) (cSeq (cAug 2 gAugAdd (eOp gIx (eVarB 1) (eOp gIx (eVarB 5) (eC (.int 0))))) (cSetF 4 (eComp (eIt asSeq (eVarB 4)) [6] (bName 6) (bTest (eOp gNe (eVarB 6) (eOp gIx (eVarB 5) (eC (.int 0))))) (eVar 6)))))))) (cRet (eL (aCons (eVarB 3) (aNil)) (fun ds => (f_CanEnd_init ds).map (.obj 2)))))))
def f_judge_space : List D → Option D := runP 7 d_judge_space
def tb_CanEnd_Stuck : TruTab := [(2, f_CanEnd_bool), (1, f_Stuck_bool)]
def d_first_stuck : St1 :=
  cSeq (cIf (bNot (bTest (eUn (gIsC it_Space is_Space) (eVarB 0)))) (cNever) (cNext)) (cSeq (cSet 1 (eOp gRepT (eL (aCons (eC (.int 0)) (aNil)) mkT) (eL (aCons (eAttr 0 1 (eVarB 0)) (aNil)) gLen))) (cSeq (cPar [2, 3, 4] (xOwn (eOp gDisp1 (eVar 1) (eL (aNil) mkT)) (xOwn (eL (aCons (eVar 1) (aNil)) mkL) (xVal (eC (.int 0)) (xNil))))) (cSeq (cWhile fuel (bTest (eOp gLt (eVarB 4) (eL (aCons (eVarB 3) (aNil)) gLen))) (cSeq (cSet 5 (eOp gIx (eVarB 3) (eVarB 4))) (cSeq (cAug 4 gAugAdd (eC (.int 1))) (cSeq (cIf (bNot (bObjs tb_CanEnd_Stuck (eL (aCons (eVarB 0) (aCons (eVarB 5) (aNil))) f_judge_space))) (cRet (eL (aCons (eOp gDGet (eVarB 2) (eVarB 5)) (aNil)) gList)) (cNext)) (cFor (eItL enLT (aCons (eVarL 5) (aNil))) (bTup 2 (bCons (bName 6) (bCons (bName 7) (bNil)))) (cIf (bAnd (bTest (eOp gLt (eVarB 7) (eOp gIx (eAttr 0 1 (eVarB 0)) (eVarB 6)))) (bTest (eOp gLt (eL (aCons (eVarB 5) (aNil)) gSumA) (eAttr 0 0 (eVarB 0))))) (cSeq (cSet 8 (eL (aStar (eSlice asTup .tup (eVarB 5) (oNone) (oSome (eVar 6))) (aCons (eOp gAdd (eVarB 7) (eC (.int 1))) (aStar (eSlice asTup .tup (eVarB 5) (oSome (eOp gAdd (eVarB 6) (eC (.int 1)))) (oNone)) (aNil)))) mkT)) (cIf (bTest (eOp gDNotIn (eVarB 8) (eVarB 2))) (cSeq (cPutD 2 (eL (aStar (eOp gDGet (eVarB 2) (eVarB 5)) (aCons (eVar 6) (aNil))) mkT) (eVar 8)) (cApp 3 (eVar 8))) (cNext))) (cNext))))))) (cRet (eC .non)))))
def f_first_stuck : List D → Option D := runP 9 d_first_stuck
def d_good_steps : St1 :=
  cSeq (cDrop (eL (aCons (eVarB 0) (aCons (eVarB 1) (aNil))) f_check_held)) (cSeq (cSetF 2 (eL (aNil) mkL)) (cSeq (cFor (eItL enLT (aCons (eVarL 1) (aNil))) (bTup 2 (bCons (bName 3) (bCons (bName 4) (bNil)))) (cIf (bAnd (bTest (eOp gLt (eVarB 4) (eOp gIx (eAttr 0 1 (eVarB 0)) (eVarB 3)))) (bTest (eOp gLt (eL (aCons (eL (aCons (eVarB 1) (aNil)) gList) (aNil)) gSumA) (eAttr 0 0 (eVarB 0))))) (cSeq (cSetF 5 (eComp (eItL enLT (aCons (eVarB 1) (aNil))) [6, 7] (bTup 2 (bCons (bName 6) (bCons (bName 7) (bNil)))) (bYes) (eIf (bTest (eOp gEq (eVarB 6) (eVarB 3))) (eOp gAdd (eVarB 7) (eC (.int 1))) (eVar 7)))) (cIf (bObjs tb_CanEnd_Stuck (eL (aCons (eVarB 0) (aCons (eVarB 5) (aNil))) f_judge_space)) (cApp 2 (eVar 3)) (cNext))) (cNext))) (cRet (eVar 2))))
def f_good_steps : List D → Option D := runP 8 d_good_steps
def d__law_pick : St1 :=
  cRet (eOp gIx (eVarB 1) (eCallE 0 f__law_take (aCons (eL (aCons (eVarB 1) (aNil)) gLen) (aNil))))
def f__law_pick : List D → Nat → List Int → Option (D × Nat) := runE 1 d__law_pick
def d_enough_places : St1 :=
  cSeq (cSet 1 (eAttr 0 1 (eL (aCons (eC (.int 12)) (aCons (eVarB 0) (aNil))) (fun ds => (f_Space_init ds).map (.obj 0))))) (cRet (eOp gAdd (eL (aCons (eComp (eIt asSeq (eVarB 1)) [2] (bName 2) (bTest (eOp gGt (eVarB 2) (eC (.int 0)))) (eOp gSub (eVarB 2) (eC (.int 1)))) (aNil)) gSumA) (eIf (bTest (eL (aCons (eComp (eIt asSeq (eVarB 1)) [2] (bName 2) (bYes) (eOp gGt (eVarB 2) (eC (.int 0)))) (aNil)) gAny)) (eC (.int 1)) (eC (.int 0)))))
def f_enough_places : List D → Option D := runP 3 d_enough_places
def d_Stuck_shows : St1 :=
  cSeq (cDrop (eL (aCons (eVarB 1) (aCons (eVarB 2) (aNil))) f_check_held)) (cSeq (cIf (bNot (bTest (eL (aCons (eComp (eIt asSeq (eAttr 1 0 (eVarB 0))) [4] (bName 4) (bYes) (eL (aCons (eVarB 4) (aCons (eC (.int 0)) (aCons (eOp gSub (eL (aCons (eVarB 2) (aNil)) gLen) (eC (.int 1))) (aNil)))) f_is_number)) (aNil)) gAll))) (cRet (eC (.bl false))) (cNext)) (cSeq (cIf (bOr (bTest (eOp gEq (eAttr 1 0 (eVarB 0)) (eL (aNil) mkT))) (bTest (eOp gLt (eUn gLenSet (eAttr 1 0 (eVarB 0))) (eL (aCons (eAttr 1 0 (eVarB 0)) (aNil)) gLen)))) (cRet (eC (.bl false))) (cNext)) (cSeq (cSet 3 (eOp gSub (eAttr 0 0 (eVarB 1)) (eL (aCons (eComp (eIt asSeq (eAttr 1 0 (eVarB 0))) [4] (bName 4) (bYes) (eOp gIx (eVarB 2) (eVarB 4))) (aNil)) gSumA))) (cRet (eL (aCons (eComp (eIt asSeq (eAttr 1 0 (eVarB 0))) [4] (bName 4) (bYes) (eOp gGt (eOp gSub (eOp gIx (eAttr 0 1 (eVarB 1)) (eVarB 4)) (eOp gIx (eVarB 2) (eVarB 4))) (eVarB 3))) (aNil)) gAll)))))
def f_Stuck_shows : List D → Option D := runP 5 d_Stuck_shows
def d_law : St1 :=
  cSeq (cPar [3, 4] (xVal (eCallE 1 f__law_take (aCons (eC (.int 10)) (aNil))) (xOwn (eComp (eItL rg1 (aCons (eOp gAdd (eC (.int 1)) (eCallE 1 f__law_take (aCons (eC (.int 4)) (aNil)))) (aNil))) [2] (bName 2) (bYes) (eCallE 1 f__law_take (aCons (eC (.int 5)) (aNil)))) (xNil)))) (cSeq (cPar [5, 6] (xVal (eL (aCons (eVarB 3) (aCons (eVarB 4) (aNil))) (fun ds => (f_Space_init ds).map (.obj 0))) (xOwn (eOp gRep (eL (aCons (eC (.int 0)) (aNil)) mkL) (eL (aCons (eVarB 4) (aNil)) gLen)) (xNil)))) (cSeq (cIf (bTest (eOp gNe (eL (aCons (eComp (eIt asSeq (eVarB 4)) [14] (bName 14) (bYes) (eOp gGt (eVarB 14) (eVarB 3))) (aNil)) gAny) (eB (bNot (bObjs tb_CanEnd_Stuck (eL (aCons (eVarB 5) (aCons (eVarB 6) (aNil))) f_judge_space)))))) (cRet (eC (.bl false))) (cNext)) (cSeq (cIf (bNot (bObjs tb_CanEnd_Stuck (eL (aCons (eVarB 5) (aCons (eVarB 6) (aNil))) f_judge_space))) (cRet (eOp gEq (eL (aCons (eVarB 5) (aNil)) f_first_stuck) (eL (aNil) mkL))) (cNext)) (cSeq (cFor (eItL rg1 (aCons (eC (.int 14)) (aNil))) (bName 2) (cSeq (cPar [7, 8] (xVal (eL (aCons (eVarB 5) (aCons (eVarB 6) (aNil))) f_good_steps) (xVal (eL (aCons (eVarB 5) (aCons (eVarB 6) (aNil))) f_judge_space) (xNil)))) (cSeq (cIf (bOr (bNot (bObjs tb_CanEnd_Stuck (eVarB 8))) (bTest (eOp gNe (eL (aCons (eAttr 2 0 (eVarB 8)) (aNil)) gSortedA) (eUn gLR1 (eL (aCons (eVarB 4) (aNil)) gLen))))) (cRet (eC (.bl false))) (cNext)) (cSeq (cFor (eItL rg1 (aCons (eL (aCons (eVarB 4) (aNil)) gLen) (aNil))) (bName 9) (cSeq (cSetF 10 (eComp (eItL enLT (aCons (eVarB 6) (aNil))) [15, 16] (bTup 2 (bCons (bName 15) (bCons (bName 16) (bNil)))) (bYes) (eIf (bTest (eOp gEq (eVarB 15) (eVarB 9))) (eOp gAdd (eVarB 16) (eC (.int 1))) (eVar 16)))) (cIf (bAnd (bTest (eOp gLt (eOp gIx (eVarB 6) (eVarB 9)) (eOp gIx (eVarB 4) (eVarB 9)))) (bAnd (bTest (eOp gLt (eL (aCons (eVarB 6) (aNil)) gSumA) (eVarB 3))) (bTest (eOp gNe (eOp (inD false) (eVarB 9) (eVarB 7)) (eB (bObjs tb_CanEnd_Stuck (eL (aCons (eVarB 5) (aCons (eVarB 10) (aNil))) f_judge_space))))))) (cRet (eC (.bl false))) (cNext)))) (cSeq (cSetF 11 (eComp (eItL rg1 (aCons (eL (aCons (eVarB 4) (aNil)) gLen) (aNil))) [9] (bName 9) (bTest (eOp gLt (eOp gIx (eVarB 6) (eVarB 9)) (eOp gIx (eVarB 4) (eVarB 9)))) (eVar 9))) (cSeq (cIf (bAnd (bTest (eOp gEq (eVarB 7) (eL (aNil) mkL))) (bAnd (bTest (eOp gNe (eVarB 11) (eL (aNil) mkL))) (bTest (eOp gLt (eL (aCons (eVarB 6) (aNil)) gSumA) (eVarB 3))))) (cRet (eC (.bl false))) (cNext)) (cSeq (cIf (bOr (bTest (eOp gEq (eVarB 7) (eL (aNil) mkL))) (bTest (eOp gEq (eCallE 1 f__law_take (aCons (eC (.int 4)) (aNil))) (eC (.int 0))))) (cSeq (cSetF 12 (eComp (eItL rg1 (aCons (eL (aCons (eVarB 4) (aNil)) gLen) (aNil))) [9] (bName 9) (bAnd (bTest (eOp gGt (eOp gIx (eVarB 6) (eVarB 9)) (eC (.int 0)))) (bTest (eOp gEq (eCallE 1 f__law_take (aCons (eC (.int 2)) (aNil))) (eC (.int 0))))) (eVar 9))) (cSeq (cSetF 6 (eComp (eItL enLT (aCons (eVarB 6) (aNil))) [9, 16] (bTup 2 (bCons (bName 9) (bCons (bName 16) (bNil)))) (bYes) (eIf (bTest (eOp (inD false) (eVarB 9) (eVarB 12))) (eC (.int 0)) (eVar 16)))) (cCont))) (cNext)) (cAugL 6 (fun i j => i + j) (eCallE 1 f__law_pick (aCons (eVarB 7) (aNil))) (eC (.int 1)))))))))) (cSeq (cSet 13 (eL (aCons (eVarB 5) (aNil)) f_first_stuck)) (cSeq (cIf (bTest (eOp gNe (eOp gIs (eVarB 13) (eC .non)) (eOp gGe (eVarB 3) (eL (aCons (eVarB 4) (aNil)) f_enough_places)))) (cRet (eC (.bl false))) (cNext)) (cSeq (cIf (bTest (eOp gIs (eVarB 13) (eC .non))) (cRet (eC (.bl true))) (cNext)) (cSeq (cSetF 6 (eOp gRep (eL (aCons (eC (.int 0)) (aNil)) mkL) (eL (aCons (eVarB 4) (aNil)) gLen))) (cSeq (cFor (eIt asSeq (eSlice asLst .lst (eVarB 13) (oNone) (oSome (eUn gNeg (eC (.int 1)))))) (bName 9) (cSeq (cAugL 6 (fun i j => i + j) (eVar 9) (eC (.int 1))) (cIf (bNot (bObjs tb_CanEnd_Stuck (eL (aCons (eVarB 5) (aCons (eVarB 6) (aNil))) f_judge_space))) (cRet (eC (.bl false))) (cNext)))) (cSeq (cAugL 6 (fun i j => i + j) (eOp gIx (eVarB 13) (eUn gNeg (eC (.int 1)))) (eC (.int 1))) (cSeq (cSet 7 (eL (aCons (eVarB 5) (aCons (eVarB 6) (aNil))) f_judge_space)) (cRet (eAnd (eB (bNot (bObjs tb_CanEnd_Stuck (eVarB 7)))) (eAnd (eMeth (OfCls 1 f_Stuck_shows) (eVarB 7) (aCons (eVarB 5) (aCons (eVarB 6) (aNil)))) (eOp (inD true) (eOp gIx (eVarB 13) (eUn gNeg (eC (.int 1)))) (eL (aCons (eVarB 5) (aCons (eComp (eItL enLT (aCons (eVarB 6) (aNil))) [15, 16] (bTup 2 (bCons (bName 15) (bCons (bName 16) (bNil)))) (bYes) (eIf (bTest (eOp gEq (eVarB 15) (eOp gIx (eVarB 13) (eUn gNeg (eC (.int 1)))))) (eOp gSub (eVarB 16) (eC (.int 1))) (eVar 16))) (aNil))) f_good_steps))))))))))))))))

/-! ### what the top has written -/
structure Txt (K : PySem.W.Frag) (mg : Str → Option Value) where
  m_all : mg "all" = none
  m_any : mg "any" = none
  m_bool : mg "bool" = none
  m_enumerate : mg "enumerate" = none
  m_int : mg "int" = none
  m_isinstance : mg "isinstance" = none
  m_len : mg "len" = none
  m_list : mg "list" = none
  m_range : mg "range" = none
  m_set : mg "set" = none
  m_sorted : mg "sorted" = none
  m_sum : mg "sum" = none
  m_tuple : mg "tuple" = none
  C_Space : Addr
  g_Space : mg "Space" = some (.ref C_Space)
  l_Space : Cls K C_Space
  n_Space_places : NoAttr K C_Space "places"
  n_Space_claims : NoAttr K C_Space "claims"
  C_Stuck : Addr
  g_Stuck : mg "Stuck" = some (.ref C_Stuck)
  l_Stuck : Cls K C_Stuck
  n_Stuck_numbers : NoAttr K C_Stuck "numbers"
  C_CanEnd : Addr
  g_CanEnd : mg "CanEnd" = some (.ref C_CanEnd)
  l_CanEnd : Cls K C_CanEnd
  n_CanEnd_order : NoAttr K C_CanEnd "order"
  ic_Space : C8.InsC K C_Space
  a__law_number : Addr
  fd__law_number : FuncData
  F__law_number : C8.Def K mg "_law_number" s__law_number a__law_number fd__law_number
  b__law_number : Binds K fd__law_number ["script", "index"] []
  a__law_take : Addr
  fd__law_take : FuncData
  F__law_take : C8.Def K mg "_law_take" s__law_take a__law_take fd__law_take
  b__law_take : Binds K fd__law_take ["draw", "many"] []
  a_is_integer : Addr
  fd_is_integer : FuncData
  F_is_integer : C8.Def K mg "is_integer" s_is_integer a_is_integer fd_is_integer
  b_is_integer : Binds K fd_is_integer ["thing"] []
  a_is_number : Addr
  fd_is_number : FuncData
  F_is_number : C8.Def K mg "is_number" s_is_number a_is_number fd_is_number
  b_is_number : Binds K fd_is_number ["thing", "least", "most"] []
  a_is_row : Addr
  fd_is_row : FuncData
  F_is_row : C8.Def K mg "is_row" s_is_row a_is_row fd_is_row
  b_is_row : Binds K fd_is_row ["thing"] []
  a_Space_init : Addr
  fd_Space_init : FuncData
  F_Space_init : C8.Fun K "__init__" "Space.__init__" s_Space_init a_Space_init fd_Space_init
  M_Space : Mk K C_Space a_Space_init
  b_Space_init : Binds K fd_Space_init ["self", "places", "claims"] []
  a_CanEnd_bool : Addr
  fd_CanEnd_bool : FuncData
  F_CanEnd_bool : C8.Fun K "__bool__" "CanEnd.__bool__" s_CanEnd_bool a_CanEnd_bool fd_CanEnd_bool
  e_CanEnd_bool : Meth K C_CanEnd "__bool__" a_CanEnd_bool
  b_CanEnd_bool : Binds K fd_CanEnd_bool ["self"] []
  a_Stuck_bool : Addr
  fd_Stuck_bool : FuncData
  F_Stuck_bool : C8.Fun K "__bool__" "Stuck.__bool__" s_Stuck_bool a_Stuck_bool fd_Stuck_bool
  e_Stuck_bool : Meth K C_Stuck "__bool__" a_Stuck_bool
  b_Stuck_bool : Binds K fd_Stuck_bool ["self"] []
  a_check_held : Addr
  fd_check_held : FuncData
  F_check_held : C8.Def K mg "check_held" s_check_held a_check_held fd_check_held
  b_check_held : Binds K fd_check_held ["space", "held"] []
  a_Stuck_init : Addr
  fd_Stuck_init : FuncData
  F_Stuck_init : C8.Fun K "__init__" "Stuck.__init__" s_Stuck_init a_Stuck_init fd_Stuck_init
  M_Stuck : Mk K C_Stuck a_Stuck_init
  b_Stuck_init : Binds K fd_Stuck_init ["self", "numbers"] []
  a_CanEnd_init : Addr
  fd_CanEnd_init : FuncData
  F_CanEnd_init : C8.Fun K "__init__" "CanEnd.__init__" s_CanEnd_init a_CanEnd_init fd_CanEnd_init
  M_CanEnd : Mk K C_CanEnd a_CanEnd_init
  b_CanEnd_init : Binds K fd_CanEnd_init ["self", "order"] []
  a_judge_space : Addr
  fd_judge_space : FuncData
  F_judge_space : C8.Def K mg "judge_space" s_judge_space a_judge_space fd_judge_space
  b_judge_space : Binds K fd_judge_space ["space", "held"] []
  a_first_stuck : Addr
  fd_first_stuck : FuncData
  F_first_stuck : C8.Def K mg "first_stuck" s_first_stuck a_first_stuck fd_first_stuck
  b_first_stuck : Binds K fd_first_stuck ["space"] []
  a_good_steps : Addr
  fd_good_steps : FuncData
  F_good_steps : C8.Def K mg "good_steps" s_good_steps a_good_steps fd_good_steps
  b_good_steps : Binds K fd_good_steps ["space", "held"] []
  a__law_pick : Addr
  fd__law_pick : FuncData
  F__law_pick : C8.Def K mg "_law_pick" s__law_pick a__law_pick fd__law_pick
  b__law_pick : Binds K fd__law_pick ["draw", "items"] []
  a_enough_places : Addr
  fd_enough_places : FuncData
  F_enough_places : C8.Def K mg "enough_places" s_enough_places a_enough_places fd_enough_places
  b_enough_places : Binds K fd_enough_places ["claims"] []
  a_Stuck_shows : Addr
  fd_Stuck_shows : FuncData
  F_Stuck_shows : C8.Fun K "shows" "Stuck.shows" s_Stuck_shows a_Stuck_shows fd_Stuck_shows
  e_Stuck_shows : Meth K C_Stuck "shows" a_Stuck_shows
  b_Stuck_shows : Binds K fd_Stuck_shows ["self", "space", "held"] []
  a_law : Addr
  fd_law : FuncData
  F_law : C8.Def K mg "law" s_law a_law fd_law
  b_law : Binds K fd_law ["script"] []
section
variable {P : Program} {w : World} {K : PySem.W.Frag} {mg : Str → Option Value} {base : Heap}
def cl (T : Txt K mg) : ClsT := fun c => match c with
  | 0 => some (T.C_Space, ["places", "claims"])
  | 1 => some (T.C_Stuck, ["numbers"])
  | 2 => some (T.C_CanEnd, ["order"])
  | _ => none
theorem Txt.ok_Space (T : Txt K mg) : ClsOk K (cl T) 0 T.C_Space ["places", "claims"] := ⟨rfl, T.l_Space, fun f hf => by
  simp only [List.mem_cons, List.not_mem_nil, or_false] at hf
  rcases hf with rfl | rfl
  · exact T.n_Space_places
  · exact T.n_Space_claims
⟩
theorem Txt.ok_Stuck (T : Txt K mg) : ClsOk K (cl T) 1 T.C_Stuck ["numbers"] := ⟨rfl, T.l_Stuck, fun f hf => by
  simp only [List.mem_cons, List.not_mem_nil, or_false] at hf
  rcases hf with rfl
  · exact T.n_Stuck_numbers
⟩
theorem Txt.ok_CanEnd (T : Txt K mg) : ClsOk K (cl T) 2 T.C_CanEnd ["order"] := ⟨rfl, T.l_CanEnd, fun f hf => by
  simp only [List.mem_cons, List.not_mem_nil, or_false] at hf
  rcases hf with rfl
  · exact T.n_CanEnd_order
⟩
theorem Txt.isi_Space (T : Txt K mg) : IsiOk K (cl T) T.C_Space it_Space is_Space := ⟨fun q hq => by
  simp only [it_Space, List.mem_cons, List.not_mem_nil, or_false] at hq
  rcases hq with rfl
  · exact ⟨_, _, rfl, T.ic_Space, T.ic_Space.me⟩
  , fun t ht => by
  simp only [is_Space, List.mem_cons, List.not_mem_nil, or_false] at ht
⟩

/-! ### each def walked once -/
theorem c__law_number (T : Txt K mg) : C8.Cal P w K mg base 1 "_law_number" (spP ⟨K, cl T⟩ 2 f__law_number) [] := cal_P (N := N__law_number) (body := d__law_number) T.F__law_number T.F__law_number.kp T.b__law_number sc__law_number (by decide) fun cdv A outer s H E hr =>
  ss_cons (s_asg (v_if (p_cmp (op_neD hr.units) od_ne (b_var (pv 0)) (b_ofF (f_lst (av_nil))) (nomark _)) (v_tup (av_cons (v_ix ix_seq od_ix (b_var (pv 0)) (b_of (m := true) (v_op op_modN od_mod (b_var (pv 1)) (b_of (m := true) (v_cb call_lenA cd_len rfl T.m_len PySem.boot_len (a_cons (b_var (pv 0)) (a_nil)))))) (fun _ _ => rfl)) (av_cons (v_op op_fdivN od_div (b_var (pv 1)) (b_of (m := true) (v_cb call_lenA cd_len rfl T.m_len PySem.boot_len (a_cons (b_var (pv 0)) (a_nil))))) (av_nil)))) (v_tup (av_cons (v_int) (av_cons (v_int) (av_nil))))) (g_tup (n := 2) rfl (gs_cons (g_name (pg_name (i := 2) sc__law_number.nd rfl (by first | exact Or.inl rfl | exact Or.inr rfl))) (gs_cons (g_name (pg_name (i := 3) sc__law_number.nd rfl (by first | exact Or.inl rfl | exact Or.inr rfl))) (gs_nil))))) (ss_cons (s_set (ps_set (i := 4) sc__law_number.nd rfl (by first | exact Or.inl rfl | exact Or.inr rfl) (v_if (p_cmp op_lt od_lt (b_var (pv 3)) (b_of (m := true) (v_int)) (nomark _)) (v_op op_sub od_sub (b_var (pv 2)) (b_of (m := true) (v_op op_pow od_pow (b_of (m := true) (v_int)) (b_of (m := true) (v_int))))) (v_int)))) (ss_cons (s_for PassesOwn.never rfl (i_rg1 T.m_range (a_cons (b_of (m := false) (v_op op_modN od_mod (b_of (m := true) (v_ct call_int1 cd_int rfl T.m_int PyProof.Rows.boot_int (a_cons (b_var (pv 3)) (a_nil)))) (b_of (m := true) (v_int)))) (a_nil))) (g_name (pg_name (i := 5) sc__law_number.nd rfl (by first | exact Or.inl rfl | exact Or.inr rfl))) (ss_one (s_set (ps_set (i := 4) sc__law_number.nd rfl (by first | exact Or.inl rfl | exact Or.inr rfl) (v_op op_fdivN od_div (b_var (pv 4)) (b_of (m := true) (v_int))))))) (ss_cons (s_if (p_cmp op_gt od_gt (b_var (pv 4)) (b_of (m := true) (v_int)) (nomark _)) (ss_one (s_ret (v_op op_modN od_mod (b_of (m := true) (v_ct call_int1 cd_int rfl T.m_int PyProof.Rows.boot_int (a_cons (b_var (pv 4)) (a_nil)))) (b_of (m := true) (v_int))))) (ss_nil)) (ss_cons (s_set (ps_set (i := 6) sc__law_number.nd rfl (by first | exact Or.inl rfl | exact Or.inr rfl) (v_op op_modN od_mod (b_of (m := true) (v_op op_addA od_add (b_of (m := true) (v_op op_mul od_mul (b_of (m := true) (v_ct call_int1 cd_int rfl T.m_int PyProof.Rows.boot_int (a_cons (b_of (m := true) (v_op op_addA od_add (b_var (pv 2)) (b_of (m := true) (v_op op_mul od_mul (b_of (m := true) (v_int)) (b_var (pv 1)))))) (a_nil)))) (b_of (m := true) (v_int)))) (b_of (m := true) (v_op op_mul od_mul (b_of (m := true) (v_int)) (b_of (m := true) (v_cb call_lenA cd_len rfl T.m_len PySem.boot_len (a_cons (b_var (pv 0)) (a_nil)))))))) (b_of (m := true) (v_int))))) (ss_cons (s_set (ps_set (i := 6) sc__law_number.nd rfl (by first | exact Or.inl rfl | exact Or.inr rfl) (v_op op_modN od_mod (b_of (m := true) (v_op op_addA od_add (b_of (m := true) (v_op op_mul od_mul (b_var (pv 6)) (b_var (pv 6)))) (b_of (m := true) (v_op op_mul od_mul (b_of (m := true) (v_int)) (b_var (pv 1)))))) (b_of (m := true) (v_int))))) (ss_one (s_ret (v_ct call_int1 cd_int rfl T.m_int PyProof.Rows.boot_int (a_cons (b_of (m := true) (v_op op_modN od_mod (b_of (m := true) (v_op op_addA od_add (b_of (m := true) (v_op op_mul od_mul (b_var (pv 6)) (b_of (m := true) (v_int)))) (b_of (m := true) (v_op op_fdivN od_div (b_var (pv 6)) (b_of (m := true) (v_int)))))) (b_of (m := true) (v_int)))) (a_nil))))))))))
theorem c__law_take (T : Txt K mg) : C8.Cal P w K mg base 2 "_law_take" (spE ⟨K, cl T⟩ 1 f__law_take) [] := cal_E (n0 := "draw") (N := ["many"]) (body := d__law_take) T.F__law_take T.F__law_take.kp T.b__law_take sc__law_take (by decide) fun cdv A outer s H E hr =>
  ss_cons (s_tick (pv 0)) (ss_one (s_ret (v_op op_modN od_mod (b_of (m := true) (v_ct call_int1 cd_int rfl T.m_int PyProof.Rows.boot_int (a_cons (b_of (m := true) (v_call (c__law_number T) hr (by decide) rfl (a_cons (b_of (m := true) (v_drw0 (pv 0))) (a_cons (b_of (m := true) (v_ct call_int1 cd_int rfl T.m_int PyProof.Rows.boot_int (a_cons (b_of (m := true) (v_drw1 (pv 0))) (a_nil)))) (a_nil))) (len_cons (len_cons len_nil)))) (a_nil)))) (b_var (pv 1)))))
theorem c_is_integer (T : Txt K mg) : C8.Cal P w K mg base 1 "is_integer" (spP ⟨K, cl T⟩ 1 f_is_integer) [] := cal_P (N := N_is_integer) (body := d_is_integer) T.F_is_integer T.F_is_integer.kp T.b_is_integer sc_is_integer (by decide) fun cdv A outer s H E hr =>
  ss_one (s_ret (v_and (v_isi T.m_isinstance T.m_int rfl PyProof.Rows.boot_int (b_var (pv 0))) (v_one (v_not (v_isi T.m_isinstance T.m_bool rfl PyProof.Rows.boot_bool (b_var (pv 0)))))))
theorem c_is_number (T : Txt K mg) : C8.Cal P w K mg base 2 "is_number" (spP ⟨K, cl T⟩ 3 f_is_number) [] := cal_P (N := N_is_number) (body := d_is_number) T.F_is_number T.F_is_number.kp T.b_is_number sc_is_number (by decide) fun cdv A outer s H E hr =>
  ss_one (s_ret (v_and (v_call (c_is_integer T) hr (by decide) rfl (a_cons (b_var (pv 0)) (a_nil)) (len_cons len_nil)) (v_one (v_chain op_le op_le od_le od_le (b_var (pv 1)) (b_var (pv 0)) (b_var (pv 2))))))
theorem c_is_row (T : Txt K mg) : C8.Cal P w K mg base 1 "is_row" (spP ⟨K, cl T⟩ 1 f_is_row) [] := cal_P (N := N_is_row) (body := d_is_row) T.F_is_row T.F_is_row.kp T.b_is_row sc_is_row (by decide) fun cdv A outer s H E hr =>
  ss_one (s_ret (v_isi2 T.m_isinstance T.m_list rfl PyProof.Rows.boot_list T.m_tuple rfl PyProof.Rows.boot_tuple (b_var (pv 0))))
theorem c_Space_init (T : Txt K mg) : C8.Mak P w K mg base 3 "Space" T.C_Space (spI ⟨K, cl T⟩ 0 2 f_Space_init) [] := mak_I (n0 := "self") (N := ["places", "claims", "number", "claim"]) (body := d_Space_init) (nf := 2) T.M_Space T.g_Space (T.ok_Space).is rfl T.F_Space_init T.b_Space_init sc_Space_init (by decide) fun cdv A outer s H E hr =>
  ss_cons (s_if (p_not (p_val (v_call (c_is_number T) hr (by decide) rfl (a_cons (b_var (pv 1)) (a_cons (b_of (m := true) (v_int)) (a_cons (b_of (m := true) (v_int)) (a_nil)))) (len_cons (len_cons (len_cons len_nil)))))) (ss_one (s_never)) (ss_nil)) (ss_cons (s_if (PW.pt (w_or (p_not (p_val (v_call (c_is_row T) hr (by decide) rfl (a_cons (b_var (pv 2)) (a_nil)) (len_cons len_nil)))) (w_or1 (p_not (p_chain op_le op_le od_le od_le (b_of (m := true) (v_int)) (b_of (m := true) (v_cb call_lenA cd_len rfl T.m_len PySem.boot_len (a_cons (b_var (pv 2)) (a_nil)))) (b_of (m := true) (v_int))))))) (ss_one (s_never)) (ss_nil)) (ss_cons (s_for PassesOwn.never rfl (i_enum T.m_enumerate (a_cons (l_var (m := false) (pv 2)) (a_nil))) (g_tup (n := 2) rfl (gs_cons (g_name (pg_name (i := 3) sc_Space_init.nd rfl (by first | exact Or.inl rfl | exact Or.inr rfl))) (gs_cons (g_name (pg_name (i := 4) sc_Space_init.nd rfl (by first | exact Or.inl rfl | exact Or.inr rfl))) (gs_nil)))) (ss_one (s_if (p_not (p_val (v_call (c_is_number T) hr (by decide) rfl (a_cons (b_var (pv 4)) (a_cons (b_of (m := true) (v_int)) (a_cons (b_of (m := true) (v_int)) (a_nil)))) (len_cons (len_cons (len_cons len_nil)))))) (ss_one (s_never)) (ss_nil)))) (ss_cons (s_fld T.ok_Space (j := 0) (by decide) (by decide) (pv 0) (v_var (pv 1))) (ss_one (s_fld T.ok_Space (j := 1) (by decide) (by decide) (pv 0) (v_ct call_tuple_of cd_tuple rfl T.m_tuple PyProof.Rows.boot_tuple (a_cons (b_var (pv 2)) (a_nil))))))))
theorem c_CanEnd_bool (T : Txt K mg) : C8.Met P w K mg base 1 T.C_CanEnd "__bool__" (spP ⟨K, cl T⟩ 1 f_CanEnd_bool) [] := met_P (N := N_CanEnd_bool) (body := d_CanEnd_bool) T.l_CanEnd T.e_CanEnd_bool T.F_CanEnd_bool T.b_CanEnd_bool sc_CanEnd_bool (by decide) fun cdv A outer s H E hr =>
  ss_one (s_ret (v_bl))
theorem c_Stuck_bool (T : Txt K mg) : C8.Met P w K mg base 1 T.C_Stuck "__bool__" (spP ⟨K, cl T⟩ 1 f_Stuck_bool) [] := met_P (N := N_Stuck_bool) (body := d_Stuck_bool) T.l_Stuck T.e_Stuck_bool T.F_Stuck_bool T.b_Stuck_bool sc_Stuck_bool (by decide) fun cdv A outer s H E hr =>
  ss_one (s_ret (v_bl))
theorem c_check_held (T : Txt K mg) : C8.Cal P w K mg base 3 "check_held" (spP ⟨K, cl T⟩ 2 f_check_held) [] := cal_P (N := N_check_held) (body := d_check_held) T.F_check_held T.F_check_held.kp T.b_check_held sc_check_held (by decide) fun cdv A outer s H E hr =>
  ss_cons (s_if (p_not (p_val (v_isC (T.isi_Space) T.m_isinstance T.g_Space (b_var (pv 0))))) (ss_one (s_never)) (ss_nil)) (ss_cons (s_if (PW.pt (w_or (p_not (p_val (v_call (c_is_row T) hr (by decide) rfl (a_cons (b_var (pv 1)) (a_nil)) (len_cons len_nil)))) (w_or1 (p_cmp (op_neD hr.units) od_ne (b_of (m := true) (v_cb call_lenA cd_len rfl T.m_len PySem.boot_len (a_cons (b_var (pv 1)) (a_nil)))) (b_of (m := true) (v_cb call_lenA cd_len rfl T.m_len PySem.boot_len (a_cons (b_of (m := true) (v_attr T.ok_Space (j := 1) (by decide) (b_var (pv 0)))) (a_nil)))) (nomark _))))) (ss_one (s_never)) (ss_nil)) (ss_cons (s_for PassesOwn.never rfl (i_enum T.m_enumerate (a_cons (l_var (m := false) (pv 1)) (a_nil))) (g_tup (n := 2) rfl (gs_cons (g_name (pg_name (i := 2) sc_check_held.nd rfl (by first | exact Or.inl rfl | exact Or.inr rfl))) (gs_cons (g_name (pg_name (i := 3) sc_check_held.nd rfl (by first | exact Or.inl rfl | exact Or.inr rfl))) (gs_nil)))) (ss_one (s_if (p_not (p_val (v_call (c_is_number T) hr (by decide) rfl (a_cons (b_var (pv 3)) (a_cons (b_of (m := true) (v_int)) (a_cons (b_of (m := true) (v_ix ix_seq od_ix (b_of (m := true) (v_attr T.ok_Space (j := 1) (by decide) (b_var (pv 0)))) (b_var (pv 2)) (fun _ _ => rfl))) (a_nil)))) (len_cons (len_cons (len_cons len_nil)))))) (ss_one (s_never)) (ss_nil)))) (ss_one (s_if (p_cmp op_gt od_gt (b_of (m := true) (v_cb (call_sumA rfl) cd_sumA rfl T.m_sum PyProof.Rows.boot_sum (a_cons (b_ofF (f_ct call_list_of cf_list rfl T.m_list PyProof.Rows.boot_list (a_cons (b_var (pv 1)) (a_nil)))) (a_nil)))) (b_of (m := true) (v_attr T.ok_Space (j := 0) (by decide) (b_var (pv 0)))) (nomark _)) (ss_one (s_never)) (ss_nil)))))
theorem c_Stuck_init (T : Txt K mg) : C8.Mak P w K mg base 1 "Stuck" T.C_Stuck (spI ⟨K, cl T⟩ 1 1 f_Stuck_init) [] := mak_I (n0 := "self") (N := ["numbers"]) (body := d_Stuck_init) (nf := 1) T.M_Stuck T.g_Stuck (T.ok_Stuck).is rfl T.F_Stuck_init T.b_Stuck_init sc_Stuck_init (by decide) fun cdv A outer s H E hr =>
  ss_one (s_fld T.ok_Stuck (j := 0) (by decide) (by decide) (pv 0) (v_ct call_tuple_of cd_tuple rfl T.m_tuple PyProof.Rows.boot_tuple (a_cons (b_var (pv 1)) (a_nil))))
theorem c_CanEnd_init (T : Txt K mg) : C8.Mak P w K mg base 1 "CanEnd" T.C_CanEnd (spI ⟨K, cl T⟩ 2 1 f_CanEnd_init) [] := mak_I (n0 := "self") (N := ["order"]) (body := d_CanEnd_init) (nf := 1) T.M_CanEnd T.g_CanEnd (T.ok_CanEnd).is rfl T.F_CanEnd_init T.b_CanEnd_init sc_CanEnd_init (by decide) fun cdv A outer s H E hr =>
  ss_one (s_fld T.ok_CanEnd (j := 0) (by decide) (by decide) (pv 0) (v_ct call_tuple_of cd_tuple rfl T.m_tuple PyProof.Rows.boot_tuple (a_cons (b_var (pv 1)) (a_nil))))
theorem c_judge_space (T : Txt K mg) : C8.Cal P w K mg base 4 "judge_space" (spP ⟨K, cl T⟩ 2 f_judge_space) [] := cal_P (N := N_judge_space) (body := d_judge_space) T.F_judge_space T.F_judge_space.kp T.b_judge_space sc_judge_space (by decide) fun cdv A outer s H E hr =>
  ss_cons (s_expr (v_call (c_check_held T) hr (by decide) rfl (a_cons (b_var (pv 0)) (a_cons (b_var (pv 1)) (a_nil))) (len_cons (len_cons len_nil)))) (ss_cons (s_parT (is := [2, 3]) rfl (by show 2 ≤ lim; decide) (x_val (v_op op_sub od_sub (b_of (m := true) (v_attr T.ok_Space (j := 0) (by decide) (b_var (pv 0)))) (b_of (m := true) (v_cb (call_sumA rfl) cd_sumA rfl T.m_sum PyProof.Rows.boot_sum (a_cons (b_ofF (f_ct call_list_of cf_list rfl T.m_list PyProof.Rows.boot_list (a_cons (b_var (pv 1)) (a_nil)))) (a_nil))))) (x_own (f_lst (av_nil)) (x_nil))) (gn_cons (pg_name (i := 2) sc_judge_space.nd rfl (by first | exact Or.inl rfl | exact Or.inr rfl)) (gn_cons (pg_name (i := 3) sc_judge_space.nd rfl (by first | exact Or.inl rfl | exact Or.inr rfl)) (gn_nil)))) (ss_cons (s_setF (ps_set (i := 4) sc_judge_space.nd rfl (by first | exact Or.inl rfl | exact Or.inr rfl) (f_listRg1 rfl T.m_list T.m_range (b_of (m := true) (v_cb call_lenA cd_len rfl T.m_len PySem.boot_len (a_cons (b_var (pv 1)) (a_nil))))))) (ss_cons (s_while (n := fuel) PassesOwn.never (p_cmp (op_neD hr.units) od_ne (b_var (pv 4)) (b_ofF (f_lst (av_nil))) (nomark _)) (ss_cons (s_setF (ps_set (i := 5) sc_judge_space.nd rfl (by first | exact Or.inl rfl | exact Or.inr rfl) (f_comp (own := [("number", 6)]) rfl sc_judge_space.nd (i_seq (b_var (pv 4))) (blkOk_by (own := [("number", 6)]) (N := N_judge_space) (sc := C8.fnScope s_judge_space) (by decide +kernel)) (fun _ _ _ _ _ => g_name (pg_name (i := 6) sc_judge_space.nd rfl (by first | exact Or.inl rfl | exact Or.inr rfl))) (fun _ _ _ _ _ => ts_one (p_cmp op_le od_le (b_of (m := true) (v_op op_sub od_sub (b_of (m := true) (v_ix ix_seq od_ix (b_of (m := true) (v_attr T.ok_Space (j := 1) (by decide) (b_var (pv 0)))) (b_var (pv 6)) (fun _ _ => rfl))) (b_of (m := true) (v_ix ix_seq od_ix (b_var (pv 1)) (b_var (pv 6)) (fun _ _ => rfl))))) (b_var (pv 2)) (nomark _))) (fun _ _ _ _ _ => v_var (pv 6))))) (ss_cons (s_if (p_cmp (op_eqD hr.units) od_eq (b_var (pv 5)) (b_ofF (f_lst (av_nil))) (nomark _)) (ss_one (s_ret (v_make T.ok_Stuck (c_Stuck_init T) hr (by decide) rfl (a_cons (b_var (pv 4)) (a_nil)) (len_cons len_nil)))) (ss_nil)) (ss_cons (s_app (ps_expr (pe_bm PySem.F.plainAttrs_list PySem.F.slot_list_append PySem.F.type_list_append mt_append (pv 3) (pa_cons (v_ix ix_seq od_ix (b_var (pv 5)) (b_of (m := true) (v_int)) (fun _ _ => rfl)) pa_nil)))) (ss_cons (s_aug od_augAdd (ps_aug (i := 2) sc_judge_space.nd rfl (by first | exact Or.inl rfl | exact Or.inr rfl) (b_of (m := true) (v_ix ix_seq od_ix (b_var (pv 1)) (b_of (m := true) (v_ix ix_seq od_ix (b_var (pv 5)) (b_of (m := true) (v_int)) (fun _ _ => rfl))) (fun _ _ => rfl))) ip_add)) (ss_one (s_setC (by decide) (ps_setLc (i := 4) (own := [("number", 6)]) rfl sc_judge_space.nd rfl rfl (sw_true rfl rfl rfl (by decide +kernel)) (i_seq (b_var (pv 4))) (blkOk_by (own := [("number", 6)]) (N := N_judge_space) (sc := C8.fnScope s_judge_space) (by decide +kernel)) (fun _ _ _ _ _ => g_name (pg_name (i := 6) sc_judge_space.nd rfl (by first | exact Or.inl rfl | exact Or.inr rfl))) (fun _ _ _ _ _ => ts_one (p_cmp (op_neD hr.units) od_ne (b_var (pv 6)) (b_of (m := true) (v_ix ix_seq od_ix (b_var (pv 5)) (b_of (m := true) (v_int)) (fun _ _ => rfl))) (nomark _))) (fun _ _ _ _ _ => v_var (pv 6)))))))))) (ss_one (s_ret (v_make T.ok_CanEnd (c_CanEnd_init T) hr (by decide) rfl (a_cons (b_var (pv 3)) (a_nil)) (len_cons len_nil)))))))
theorem Txt.ok_tb_CanEnd_Stuck (T : Txt K mg) : TruOk P w K mg base (cl T) 1 tb_CanEnd_Stuck := ⟨fun q hq => by
  simp only [tb_CanEnd_Stuck, List.mem_cons, List.not_mem_nil, or_false] at hq
  rcases hq with rfl | rfl
  · exact ⟨_, _, T.ok_CanEnd, c_CanEnd_bool T⟩
  · exact ⟨_, _, T.ok_Stuck, c_Stuck_bool T⟩
⟩
theorem c_first_stuck (T : Txt K mg) : C8.Cal P w K mg base 5 "first_stuck" (spP ⟨K, cl T⟩ 1 f_first_stuck) [] := cal_P (N := N_first_stuck) (body := d_first_stuck) T.F_first_stuck T.F_first_stuck.kp T.b_first_stuck sc_first_stuck (by decide) fun cdv A outer s H E hr =>
  ss_cons (s_if (p_not (p_val (v_isC (T.isi_Space) T.m_isinstance T.g_Space (b_var (pv 0))))) (ss_one (s_never)) (ss_nil)) (ss_cons (s_set (ps_set (i := 1) sc_first_stuck.nd rfl (by first | exact Or.inl rfl | exact Or.inr rfl) (v_op op_repTA od_repT (b_of (m := true) (v_tup (av_cons (v_int) (av_nil)))) (b_of (m := true) (v_cb call_lenA cd_len rfl T.m_len PySem.boot_len (a_cons (b_of (m := true) (v_attr T.ok_Space (j := 1) (by decide) (b_var (pv 0)))) (a_nil))))))) (ss_cons (s_par3 (ps_par3 (i := 2) (j := 3) (l := 4) rfl sc_first_stuck.nd rfl rfl rfl (by decide) (by decide) (by decide) rfl rfl rfl (x_own (f_disp1 hr (v_var (pv 1)) (v_tup (av_nil))) (x_own (f_lst (av_cons (v_var (pv 1)) (av_nil))) (x_val (v_int) (x_nil)))) rfl)) (ss_cons (s_while (n := fuel) PassesOwn.never (p_cmp op_lt od_lt (b_var (pv 4)) (b_of (m := true) (v_cb call_lenA cd_len rfl T.m_len PySem.boot_len (a_cons (b_var (pv 3)) (a_nil)))) (nomark _)) (ss_cons (s_set (ps_set (i := 5) sc_first_stuck.nd rfl (by first | exact Or.inl rfl | exact Or.inr rfl) (v_ix ix_seq od_ix (b_var (pv 3)) (b_var (pv 4)) (fun _ _ => rfl)))) (ss_cons (s_aug od_augAdd (ps_aug (i := 4) sc_first_stuck.nd rfl (by first | exact Or.inl rfl | exact Or.inr rfl) (b_of (m := true) (v_int)) ip_add)) (ss_cons (s_if (p_not (p_objs (T.ok_tb_CanEnd_Stuck) hr (by decide) (b_of (m := true) (v_call (c_judge_space T) hr (by decide) rfl (a_cons (b_var (pv 0)) (a_cons (b_var (pv 5)) (a_nil))) (len_cons (len_cons len_nil)))))) (ss_one (s_ret (v_ofF (f_ct call_list_of cf_list rfl T.m_list PyProof.Rows.boot_list (a_cons (b_of (m := true) (v_dget hr (b_var (pv 2)) (b_var (pv 5)))) (a_nil)))))) (ss_nil)) (ss_one (s_for PassesOwn.never rfl (i_enum T.m_enumerate (a_cons (l_var (m := false) (pv 5)) (a_nil))) (g_tup (n := 2) rfl (gs_cons (g_name (pg_name (i := 6) sc_first_stuck.nd rfl (by first | exact Or.inl rfl | exact Or.inr rfl))) (gs_cons (g_name (pg_name (i := 7) sc_first_stuck.nd rfl (by first | exact Or.inl rfl | exact Or.inr rfl))) (gs_nil)))) (ss_one (s_if (PW.pt (w_and (p_cmp op_lt od_lt (b_var (pv 7)) (b_of (m := true) (v_ix ix_seq od_ix (b_of (m := true) (v_attr T.ok_Space (j := 1) (by decide) (b_var (pv 0)))) (b_var (pv 6)) (fun _ _ => rfl))) (nomark _)) (w_and1 (p_cmp op_lt od_lt (b_of (m := true) (v_cb (call_sumA rfl) cd_sumA rfl T.m_sum PyProof.Rows.boot_sum (a_cons (b_var (pv 5)) (a_nil)))) (b_of (m := true) (v_attr T.ok_Space (j := 0) (by decide) (b_var (pv 0)))) (nomark _))))) (ss_cons (s_set (ps_set (i := 8) sc_first_stuck.nd rfl (by first | exact Or.inl rfl | exact Or.inr rfl) (v_tup (av_star (b_of (m := true) (v_sliceT (b_var (pv 5)) (o_none) (o_some (v_var (pv 6))))) (av_cons (v_op op_addA od_add (b_var (pv 7)) (b_of (m := true) (v_int))) (av_star (b_of (m := true) (v_sliceT (b_var (pv 5)) (o_some (v_op op_addA od_add (b_var (pv 6)) (b_of (m := true) (v_int)))) (o_none))) (av_nil))))))) (ss_one (s_if (p_dnotin hr (b_var (pv 8)) (b_var (pv 2))) (ss_cons (s_dput hr (pv 2) (v_var (pv 8)) (v_tup (av_star (b_of (m := true) (v_dget hr (b_var (pv 2)) (b_var (pv 5)))) (av_cons (v_var (pv 6)) (av_nil))))) (ss_one (s_app (ps_expr (pe_bm PySem.F.plainAttrs_list PySem.F.slot_list_append PySem.F.type_list_append mt_append (pv 3) (pa_cons (v_var (pv 8)) pa_nil)))))) (ss_nil)))) (ss_nil))))))))) (ss_one (s_ret (v_non))))))
theorem c_good_steps (T : Txt K mg) : C8.Cal P w K mg base 5 "good_steps" (spP ⟨K, cl T⟩ 2 f_good_steps) [] := cal_P (N := N_good_steps) (body := d_good_steps) T.F_good_steps T.F_good_steps.kp T.b_good_steps sc_good_steps (by decide) fun cdv A outer s H E hr =>
  ss_cons (s_expr (v_call (c_check_held T) hr (by decide) rfl (a_cons (b_var (pv 0)) (a_cons (b_var (pv 1)) (a_nil))) (len_cons (len_cons len_nil)))) (ss_cons (s_setF (ps_set (i := 2) sc_good_steps.nd rfl (by first | exact Or.inl rfl | exact Or.inr rfl) (f_lst (av_nil)))) (ss_cons (s_for PassesOwn.never rfl (i_enum T.m_enumerate (a_cons (l_var (m := false) (pv 1)) (a_nil))) (g_tup (n := 2) rfl (gs_cons (g_name (pg_name (i := 3) sc_good_steps.nd rfl (by first | exact Or.inl rfl | exact Or.inr rfl))) (gs_cons (g_name (pg_name (i := 4) sc_good_steps.nd rfl (by first | exact Or.inl rfl | exact Or.inr rfl))) (gs_nil)))) (ss_one (s_if (PW.pt (w_and (p_cmp op_lt od_lt (b_var (pv 4)) (b_of (m := true) (v_ix ix_seq od_ix (b_of (m := true) (v_attr T.ok_Space (j := 1) (by decide) (b_var (pv 0)))) (b_var (pv 3)) (fun _ _ => rfl))) (nomark _)) (w_and1 (p_cmp op_lt od_lt (b_of (m := true) (v_cb (call_sumA rfl) cd_sumA rfl T.m_sum PyProof.Rows.boot_sum (a_cons (b_ofF (f_ct call_list_of cf_list rfl T.m_list PyProof.Rows.boot_list (a_cons (b_var (pv 1)) (a_nil)))) (a_nil)))) (b_of (m := true) (v_attr T.ok_Space (j := 0) (by decide) (b_var (pv 0)))) (nomark _))))) (ss_cons (s_setC (by decide) (ps_setLc (i := 5) (own := [("at", 6), ("one", 7)]) rfl sc_good_steps.nd rfl rfl (sw_true rfl rfl rfl (by decide +kernel)) (i_enum T.m_enumerate (a_cons (b_var (pv 1)) (a_nil))) (blkOk_by (own := [("at", 6), ("one", 7)]) (N := N_good_steps) (sc := C8.fnScope s_good_steps) (by decide +kernel)) (fun _ _ _ _ _ => g_tup (n := 2) rfl (gs_cons (g_name (pg_name (i := 6) sc_good_steps.nd rfl (by first | exact Or.inl rfl | exact Or.inr rfl))) (gs_cons (g_name (pg_name (i := 7) sc_good_steps.nd rfl (by first | exact Or.inl rfl | exact Or.inr rfl))) (gs_nil)))) (fun _ _ _ _ _ => ts_nil) (fun _ _ _ _ _ => v_if (p_cmp (op_eqD hr.units) od_eq (b_var (pv 6)) (b_var (pv 3)) (nomark _)) (v_op op_addA od_add (b_var (pv 7)) (b_of (m := true) (v_int))) (v_var (pv 7))))) (ss_one (s_if (p_objs (T.ok_tb_CanEnd_Stuck) hr (by decide) (b_of (m := true) (v_call (c_judge_space T) hr (by decide) rfl (a_cons (b_var (pv 0)) (a_cons (b_var (pv 5)) (a_nil))) (len_cons (len_cons len_nil))))) (ss_one (s_app (ps_expr (pe_bm PySem.F.plainAttrs_list PySem.F.slot_list_append PySem.F.type_list_append mt_append (pv 2) (pa_cons (v_var (pv 3)) pa_nil))))) (ss_nil)))) (ss_nil)))) (ss_one (s_ret (v_var (pv 2))))))
theorem c__law_pick (T : Txt K mg) : C8.Cal P w K mg base 3 "_law_pick" (spE ⟨K, cl T⟩ 1 f__law_pick) [] := cal_E (n0 := "draw") (N := ["items"]) (body := d__law_pick) T.F__law_pick T.F__law_pick.kp T.b__law_pick sc__law_pick (by decide) fun cdv A outer s H E hr =>
  ss_one (s_ret (v_ix ix_seq od_ix (b_var (pv 1)) (b_of (m := true) (v_callE (c__law_take T) hr (by decide) rfl (pv 0) (a_cons (b_of (m := true) (v_cb call_lenA cd_len rfl T.m_len PySem.boot_len (a_cons (b_var (pv 1)) (a_nil)))) (a_nil)) (len_cons len_nil))) (fun _ _ => rfl)))
theorem c_enough_places (T : Txt K mg) : C8.Cal P w K mg base 5 "enough_places" (spP ⟨K, cl T⟩ 1 f_enough_places) [] := cal_P (N := N_enough_places) (body := d_enough_places) T.F_enough_places T.F_enough_places.kp T.b_enough_places sc_enough_places (by decide) fun cdv A outer s H E hr =>
  ss_cons (s_set (ps_set (i := 1) sc_enough_places.nd rfl (by first | exact Or.inl rfl | exact Or.inr rfl) (v_attr T.ok_Space (j := 1) (by decide) (b_of (m := true) (v_make T.ok_Space (c_Space_init T) hr (by decide) rfl (a_cons (b_of (m := true) (v_int)) (a_cons (b_var (pv 0)) (a_nil))) (len_cons (len_cons len_nil))))))) (ss_one (s_ret (v_op op_addA od_add (b_of (m := true) (v_cb (call_sumA rfl) cd_sumA rfl T.m_sum PyProof.Rows.boot_sum (a_cons (b_ofF (f_comp (own := [("claim", 2)]) rfl sc_enough_places.nd (i_seq (b_var (pv 1))) (blkOk_by (own := [("claim", 2)]) (N := N_enough_places) (sc := C8.fnScope s_enough_places) (by decide +kernel)) (fun _ _ _ _ _ => g_name (pg_name (i := 2) sc_enough_places.nd rfl (by first | exact Or.inl rfl | exact Or.inr rfl))) (fun _ _ _ _ _ => ts_one (p_cmp op_gt od_gt (b_var (pv 2)) (b_of (m := true) (v_int)) (nomark _))) (fun _ _ _ _ _ => v_op op_sub od_sub (b_var (pv 2)) (b_of (m := true) (v_int))))) (a_nil)))) (b_of (m := true) (v_if (p_val (v_cb (cr_any rfl) cd_any rfl T.m_any PyProof.Rows.boot_any (a_cons (b_ofF (f_comp (own := [("claim", 2)]) rfl sc_enough_places.nd (i_seq (b_var (pv 1))) (blkOk_by (own := [("claim", 2)]) (N := N_enough_places) (sc := C8.fnScope s_enough_places) (by decide +kernel)) (fun _ _ _ _ _ => g_name (pg_name (i := 2) sc_enough_places.nd rfl (by first | exact Or.inl rfl | exact Or.inr rfl))) (fun _ _ _ _ _ => ts_nil) (fun _ _ _ _ _ => v_cmp op_gt od_gt (b_var (pv 2)) (b_of (m := true) (v_int)) (nomark _)))) (a_nil)))) (v_int) (v_int))))))
theorem c_Stuck_shows (T : Txt K mg) : C8.Met P w K mg base 4 T.C_Stuck "shows" (spP ⟨K, cl T⟩ 3 f_Stuck_shows) [] := met_P (N := N_Stuck_shows) (body := d_Stuck_shows) T.l_Stuck T.e_Stuck_shows T.F_Stuck_shows T.b_Stuck_shows sc_Stuck_shows (by decide) fun cdv A outer s H E hr =>
  ss_cons (s_expr (v_call (c_check_held T) hr (by decide) rfl (a_cons (b_var (pv 1)) (a_cons (b_var (pv 2)) (a_nil))) (len_cons (len_cons len_nil)))) (ss_cons (s_if (p_not (p_val (v_cb (cr_all rfl) cd_all rfl T.m_all PyProof.Rows.boot_all (a_cons (b_ofF (f_comp (own := [("number", 4)]) rfl sc_Stuck_shows.nd (i_seq (b_of (m := true) (v_attr T.ok_Stuck (j := 0) (by decide) (b_var (pv 0))))) (blkOk_by (own := [("number", 4)]) (N := N_Stuck_shows) (sc := C8.fnScope s_Stuck_shows) (by decide +kernel)) (fun _ _ _ _ _ => g_name (pg_name (i := 4) sc_Stuck_shows.nd rfl (by first | exact Or.inl rfl | exact Or.inr rfl))) (fun _ _ _ _ _ => ts_nil) (fun _ _ _ _ _ => v_call (c_is_number T) hr (by decide) rfl (a_cons (b_var (pv 4)) (a_cons (b_of (m := true) (v_int)) (a_cons (b_of (m := true) (v_op op_sub od_sub (b_of (m := true) (v_cb call_lenA cd_len rfl T.m_len PySem.boot_len (a_cons (b_var (pv 2)) (a_nil)))) (b_of (m := true) (v_int)))) (a_nil)))) (len_cons (len_cons (len_cons len_nil)))))) (a_nil))))) (ss_one (s_ret (v_bl))) (ss_nil)) (ss_cons (s_if (PW.pt (w_or (p_cmp (op_eqD hr.units) od_eq (b_of (m := true) (v_attr T.ok_Stuck (j := 0) (by decide) (b_var (pv 0)))) (b_of (m := true) (v_tup (av_nil))) (nomark _)) (w_or1 (p_cmp op_lt od_lt (b_of (m := true) (v_lenSet rfl T.m_len T.m_set (b_of (m := true) (v_attr T.ok_Stuck (j := 0) (by decide) (b_var (pv 0)))))) (b_of (m := true) (v_cb call_lenA cd_len rfl T.m_len PySem.boot_len (a_cons (b_of (m := true) (v_attr T.ok_Stuck (j := 0) (by decide) (b_var (pv 0)))) (a_nil)))) (nomark _))))) (ss_one (s_ret (v_bl))) (ss_nil)) (ss_cons (s_set (ps_set (i := 3) sc_Stuck_shows.nd rfl (by first | exact Or.inl rfl | exact Or.inr rfl) (v_op op_sub od_sub (b_of (m := true) (v_attr T.ok_Space (j := 0) (by decide) (b_var (pv 1)))) (b_of (m := true) (v_cb (call_sumA rfl) cd_sumA rfl T.m_sum PyProof.Rows.boot_sum (a_cons (b_ofF (f_comp (own := [("number", 4)]) rfl sc_Stuck_shows.nd (i_seq (b_of (m := true) (v_attr T.ok_Stuck (j := 0) (by decide) (b_var (pv 0))))) (blkOk_by (own := [("number", 4)]) (N := N_Stuck_shows) (sc := C8.fnScope s_Stuck_shows) (by decide +kernel)) (fun _ _ _ _ _ => g_name (pg_name (i := 4) sc_Stuck_shows.nd rfl (by first | exact Or.inl rfl | exact Or.inr rfl))) (fun _ _ _ _ _ => ts_nil) (fun _ _ _ _ _ => v_ix ix_seq od_ix (b_var (pv 2)) (b_var (pv 4)) (fun _ _ => rfl)))) (a_nil))))))) (ss_one (s_ret (v_cb (cr_all rfl) cd_all rfl T.m_all PyProof.Rows.boot_all (a_cons (b_ofF (f_comp (own := [("number", 4)]) rfl sc_Stuck_shows.nd (i_seq (b_of (m := true) (v_attr T.ok_Stuck (j := 0) (by decide) (b_var (pv 0))))) (blkOk_by (own := [("number", 4)]) (N := N_Stuck_shows) (sc := C8.fnScope s_Stuck_shows) (by decide +kernel)) (fun _ _ _ _ _ => g_name (pg_name (i := 4) sc_Stuck_shows.nd rfl (by first | exact Or.inl rfl | exact Or.inr rfl))) (fun _ _ _ _ _ => ts_nil) (fun _ _ _ _ _ => v_cmp op_gt od_gt (b_of (m := true) (v_op op_sub od_sub (b_of (m := true) (v_ix ix_seq od_ix (b_of (m := true) (v_attr T.ok_Space (j := 1) (by decide) (b_var (pv 1)))) (b_var (pv 4)) (fun _ _ => rfl))) (b_of (m := true) (v_ix ix_seq od_ix (b_var (pv 2)) (b_var (pv 4)) (fun _ _ => rfl))))) (b_var (pv 3)) (nomark _)))) (a_nil))))))))
theorem c_law (T : Txt K mg) (hl : ∀ ns : List Int, ns.length ≤ 63 → ∃ s', d_law ⟨(Sl.val (.scr ns) :: List.replicate 16 .no).set 1 .drw, 0, ns⟩ = some (.rt (.bl true) s')) : FnOk P w K mg base C8.CX0 6 T.a_law T.fd_law ["script"] (spLaw K) := fn_law (n0 := "script") (N := ["draw", "turn", "places", "claims", "space", "held", "found", "near", "number", "late", "free", "ends", "way", "claim", "at", "many"]) (i := 1) (body := d_law) (cls := cl T) T.F_law.fn sc_law ⟨by decide, by decide⟩ hl fun cdv A outer s H E hr =>
  ss_law (ps_set (i := 1) sc_law.nd rfl (by first | exact Or.inl rfl | exact Or.inr rfl) (pe_lst (pa_cons (pv 0) (pa_cons (pe_int (i := 0)) pa_nil)))) (ss_cons (s_parT (is := [3, 4]) rfl (by show 2 ≤ lim; decide) (x_val (v_callE (c__law_take T) hr (by decide) rfl (pv 1) (a_cons (b_of (m := true) (v_int)) (a_nil)) (len_cons len_nil)) (x_own (f_comp (own := [("turn", 2)]) rfl sc_law.nd (i_rg1 T.m_range (a_cons (b_of (m := true) (v_op op_addA od_add (b_of (m := true) (v_int)) (b_of (m := true) (v_callE (c__law_take T) hr (by decide) rfl (pv 1) (a_cons (b_of (m := true) (v_int)) (a_nil)) (len_cons len_nil))))) (a_nil))) (blkOk_by (own := [("turn", 2)]) (N := N_law) (sc := C8.fnScope s_law) (by decide +kernel)) (fun _ _ _ _ _ => g_name (pg_name (i := 2) sc_law.nd rfl (by first | exact Or.inl rfl | exact Or.inr rfl))) (fun _ _ _ _ _ => ts_nil) (fun _ _ _ _ _ => v_callE (c__law_take T) hr (by decide) rfl (pv 1) (a_cons (b_of (m := true) (v_int)) (a_nil)) (len_cons len_nil))) (x_nil))) (gn_cons (pg_name (i := 3) sc_law.nd rfl (by first | exact Or.inl rfl | exact Or.inr rfl)) (gn_cons (pg_name (i := 4) sc_law.nd rfl (by first | exact Or.inl rfl | exact Or.inr rfl)) (gn_nil)))) (ss_cons (s_parT (is := [5, 6]) rfl (by show 2 ≤ lim; decide) (x_val (v_make T.ok_Space (c_Space_init T) hr (by decide) rfl (a_cons (b_var (pv 3)) (a_cons (b_var (pv 4)) (a_nil))) (len_cons (len_cons len_nil))) (x_own (f_op op_rep of_rep (b_ofF (f_lst (av_cons (v_int) (av_nil)))) (b_of (m := true) (v_cb call_lenA cd_len rfl T.m_len PySem.boot_len (a_cons (b_var (pv 4)) (a_nil))))) (x_nil))) (gn_cons (pg_name (i := 5) sc_law.nd rfl (by first | exact Or.inl rfl | exact Or.inr rfl)) (gn_cons (pg_name (i := 6) sc_law.nd rfl (by first | exact Or.inl rfl | exact Or.inr rfl)) (gn_nil)))) (ss_cons (s_if (p_cmp (op_neD hr.units) od_ne (b_of (m := true) (v_cb (cr_any rfl) cd_any rfl T.m_any PyProof.Rows.boot_any (a_cons (b_ofF (f_comp (own := [("claim", 14)]) rfl sc_law.nd (i_seq (b_var (pv 4))) (blkOk_by (own := [("claim", 14)]) (N := N_law) (sc := C8.fnScope s_law) (by decide +kernel)) (fun _ _ _ _ _ => g_name (pg_name (i := 14) sc_law.nd rfl (by first | exact Or.inl rfl | exact Or.inr rfl))) (fun _ _ _ _ _ => ts_nil) (fun _ _ _ _ _ => v_cmp op_gt od_gt (b_var (pv 14)) (b_var (pv 3)) (nomark _)))) (a_nil)))) (b_of (m := true) (v_notOs (T.ok_tb_CanEnd_Stuck) hr (by decide) (b_of (m := true) (v_call (c_judge_space T) hr (by decide) rfl (a_cons (b_var (pv 5)) (a_cons (b_var (pv 6)) (a_nil))) (len_cons (len_cons len_nil)))))) (nomark _)) (ss_one (s_ret (v_bl))) (ss_nil)) (ss_cons (s_if (p_not (p_objs (T.ok_tb_CanEnd_Stuck) hr (by decide) (b_of (m := true) (v_call (c_judge_space T) hr (by decide) rfl (a_cons (b_var (pv 5)) (a_cons (b_var (pv 6)) (a_nil))) (len_cons (len_cons len_nil)))))) (ss_one (s_ret (v_cmp (op_eqD hr.units) od_eq (b_of (m := true) (v_call (c_first_stuck T) hr (by decide) rfl (a_cons (b_var (pv 5)) (a_nil)) (len_cons len_nil))) (b_ofF (f_lst (av_nil))) (nomark _)))) (ss_nil)) (ss_cons (s_for PassesOwn.never rfl (i_rg1 T.m_range (a_cons (b_of (m := false) (v_int)) (a_nil))) (g_name (pg_name (i := 2) sc_law.nd rfl (by first | exact Or.inl rfl | exact Or.inr rfl))) (ss_cons (s_par2 (ps_par (i := 7) (j := 8) rfl sc_law.nd rfl rfl (by decide) rfl rfl (x_val (v_call (c_good_steps T) hr (by decide) rfl (a_cons (b_var (pv 5)) (a_cons (b_var (pv 6)) (a_nil))) (len_cons (len_cons len_nil))) (x_val (v_call (c_judge_space T) hr (by decide) rfl (a_cons (b_var (pv 5)) (a_cons (b_var (pv 6)) (a_nil))) (len_cons (len_cons len_nil))) (x_nil))) rfl)) (ss_cons (s_if (PW.pt (w_or (p_not (p_objs (T.ok_tb_CanEnd_Stuck) hr (by decide) (b_var (pv 8)))) (w_or1 (p_cmp (op_neD hr.units) od_ne (b_ofF (f_cb call_sortedA cf_sortedA rfl T.m_sorted PyProof.Rows.boot_sorted (a_cons (b_of (m := true) (v_attr T.ok_CanEnd (j := 0) (by decide) (b_var (pv 8)))) (a_nil)))) (b_ofF (f_listRg1 rfl T.m_list T.m_range (b_of (m := true) (v_cb call_lenA cd_len rfl T.m_len PySem.boot_len (a_cons (b_var (pv 4)) (a_nil)))))) (nomark _))))) (ss_one (s_ret (v_bl))) (ss_nil)) (ss_cons (s_for PassesOwn.never rfl (i_rg1 T.m_range (a_cons (b_of (m := false) (v_cb call_lenA cd_len rfl T.m_len PySem.boot_len (a_cons (b_var (pv 4)) (a_nil)))) (a_nil))) (g_name (pg_name (i := 9) sc_law.nd rfl (by first | exact Or.inl rfl | exact Or.inr rfl))) (ss_cons (s_setC (by decide) (ps_setLc (i := 10) (own := [("at", 15), ("many", 16)]) rfl sc_law.nd rfl rfl (sw_true rfl rfl rfl (by decide +kernel)) (i_enum T.m_enumerate (a_cons (b_var (pv 6)) (a_nil))) (blkOk_by (own := [("at", 15), ("many", 16)]) (N := N_law) (sc := C8.fnScope s_law) (by decide +kernel)) (fun _ _ _ _ _ => g_tup (n := 2) rfl (gs_cons (g_name (pg_name (i := 15) sc_law.nd rfl (by first | exact Or.inl rfl | exact Or.inr rfl))) (gs_cons (g_name (pg_name (i := 16) sc_law.nd rfl (by first | exact Or.inl rfl | exact Or.inr rfl))) (gs_nil)))) (fun _ _ _ _ _ => ts_nil) (fun _ _ _ _ _ => v_if (p_cmp (op_eqD hr.units) od_eq (b_var (pv 15)) (b_var (pv 9)) (nomark _)) (v_op op_addA od_add (b_var (pv 16)) (b_of (m := true) (v_int))) (v_var (pv 16))))) (ss_one (s_if (PW.pt (w_and (p_cmp op_lt od_lt (b_of (m := true) (v_ix ix_seq od_ix (b_var (pv 6)) (b_var (pv 9)) (fun _ _ => rfl))) (b_of (m := true) (v_ix ix_seq od_ix (b_var (pv 4)) (b_var (pv 9)) (fun _ _ => rfl))) (nomark _)) (w_and (p_cmp op_lt od_lt (b_of (m := true) (v_cb (call_sumA rfl) cd_sumA rfl T.m_sum PyProof.Rows.boot_sum (a_cons (b_var (pv 6)) (a_nil)))) (b_var (pv 3)) (nomark _)) (w_and1 (p_cmp (op_neD hr.units) od_ne (b_of (m := true) (v_cmp op_in_seq (od_in (neg := false)) (b_var (pv 9)) (b_var (pv 7)) (by with_unfolding_all rfl))) (b_of (m := true) (v_boolOs (T.ok_tb_CanEnd_Stuck) hr (by decide) T.m_bool (b_of (m := true) (v_call (c_judge_space T) hr (by decide) rfl (a_cons (b_var (pv 5)) (a_cons (b_var (pv 10)) (a_nil))) (len_cons (len_cons len_nil)))))) (nomark _)))))) (ss_one (s_ret (v_bl))) (ss_nil))))) (ss_cons (s_setC (by decide) (ps_setLc (i := 11) (own := [("number", 9)]) rfl sc_law.nd rfl rfl (sw_true rfl rfl rfl (by decide +kernel)) (i_rg1 T.m_range (a_cons (b_of (m := true) (v_cb call_lenA cd_len rfl T.m_len PySem.boot_len (a_cons (b_var (pv 4)) (a_nil)))) (a_nil))) (blkOk_by (own := [("number", 9)]) (N := N_law) (sc := C8.fnScope s_law) (by decide +kernel)) (fun _ _ _ _ _ => g_name (pg_name (i := 9) sc_law.nd rfl (by first | exact Or.inl rfl | exact Or.inr rfl))) (fun _ _ _ _ _ => ts_one (p_cmp op_lt od_lt (b_of (m := true) (v_ix ix_seq od_ix (b_var (pv 6)) (b_var (pv 9)) (fun _ _ => rfl))) (b_of (m := true) (v_ix ix_seq od_ix (b_var (pv 4)) (b_var (pv 9)) (fun _ _ => rfl))) (nomark _))) (fun _ _ _ _ _ => v_var (pv 9)))) (ss_cons (s_if (PW.pt (w_and (p_cmp (op_eqD hr.units) od_eq (b_var (pv 7)) (b_ofF (f_lst (av_nil))) (nomark _)) (w_and (p_cmp (op_neD hr.units) od_ne (b_var (pv 11)) (b_ofF (f_lst (av_nil))) (nomark _)) (w_and1 (p_cmp op_lt od_lt (b_of (m := true) (v_cb (call_sumA rfl) cd_sumA rfl T.m_sum PyProof.Rows.boot_sum (a_cons (b_var (pv 6)) (a_nil)))) (b_var (pv 3)) (nomark _)))))) (ss_one (s_ret (v_bl))) (ss_nil)) (ss_cons (s_if (PW.pt (w_or (p_cmp (op_eqD hr.units) od_eq (b_var (pv 7)) (b_ofF (f_lst (av_nil))) (nomark _)) (w_or1 (p_cmp (op_eqD hr.units) od_eq (b_of (m := true) (v_callE (c__law_take T) hr (by decide) rfl (pv 1) (a_cons (b_of (m := true) (v_int)) (a_nil)) (len_cons len_nil))) (b_of (m := true) (v_int)) (nomark _))))) (ss_cons (s_setF (ps_set (i := 12) sc_law.nd rfl (by first | exact Or.inl rfl | exact Or.inr rfl) (f_comp (own := [("number", 9)]) rfl sc_law.nd (i_rg1 T.m_range (a_cons (b_of (m := true) (v_cb call_lenA cd_len rfl T.m_len PySem.boot_len (a_cons (b_var (pv 4)) (a_nil)))) (a_nil))) (blkOk_by (own := [("number", 9)]) (N := N_law) (sc := C8.fnScope s_law) (by decide +kernel)) (fun _ _ _ _ _ => g_name (pg_name (i := 9) sc_law.nd rfl (by first | exact Or.inl rfl | exact Or.inr rfl))) (fun _ _ _ _ _ => ts_one (PW.pt (w_and (p_cmp op_gt od_gt (b_of (m := true) (v_ix ix_seq od_ix (b_var (pv 6)) (b_var (pv 9)) (fun _ _ => rfl))) (b_of (m := true) (v_int)) (nomark _)) (w_and1 (p_cmp (op_eqD hr.units) od_eq (b_of (m := true) (v_callE (c__law_take T) hr (by decide) rfl (pv 1) (a_cons (b_of (m := true) (v_int)) (a_nil)) (len_cons len_nil))) (b_of (m := true) (v_int)) (nomark _)))))) (fun _ _ _ _ _ => v_var (pv 9))))) (ss_cons (s_setF (ps_set (i := 6) sc_law.nd rfl (by first | exact Or.inl rfl | exact Or.inr rfl) (f_comp (own := [("number", 9), ("many", 16)]) rfl sc_law.nd (i_enum T.m_enumerate (a_cons (b_var (pv 6)) (a_nil))) (blkOk_by (own := [("number", 9), ("many", 16)]) (N := N_law) (sc := C8.fnScope s_law) (by decide +kernel)) (fun _ _ _ _ _ => g_tup (n := 2) rfl (gs_cons (g_name (pg_name (i := 9) sc_law.nd rfl (by first | exact Or.inl rfl | exact Or.inr rfl))) (gs_cons (g_name (pg_name (i := 16) sc_law.nd rfl (by first | exact Or.inl rfl | exact Or.inr rfl))) (gs_nil)))) (fun _ _ _ _ _ => ts_nil) (fun _ _ _ _ _ => v_if (p_cmp op_in_seq (od_in (neg := false)) (b_var (pv 9)) (b_var (pv 12)) (by with_unfolding_all rfl)) (v_int) (v_var (pv 16)))))) (ss_one (s_cont)))) (ss_nil)) (ss_one (s_augL (ps_augS (pv 6) (v_callE (c__law_pick T) hr (by decide) rfl (pv 1) (a_cons (b_var (pv 7)) (a_nil)) (len_cons len_nil)) get_list (v_int) ip_add set_list)))))))))) (ss_cons (s_set (ps_set (i := 13) sc_law.nd rfl (by first | exact Or.inl rfl | exact Or.inr rfl) (v_call (c_first_stuck T) hr (by decide) rfl (a_cons (b_var (pv 5)) (a_nil)) (len_cons len_nil)))) (ss_cons (s_if (p_cmp (op_neD hr.units) od_ne (b_of (m := true) (v_cmp op_isN od_is (b_var (pv 13)) (b_of (m := true) (v_non)) (nomark _))) (b_of (m := true) (v_cmp op_ge od_ge (b_var (pv 3)) (b_of (m := true) (v_call (c_enough_places T) hr (by decide) rfl (a_cons (b_var (pv 4)) (a_nil)) (len_cons len_nil))) (nomark _))) (nomark _)) (ss_one (s_ret (v_bl))) (ss_nil)) (ss_cons (s_if (p_cmp op_isN od_is (b_var (pv 13)) (b_of (m := true) (v_non)) (nomark _)) (ss_one (s_ret (v_bl))) (ss_nil)) (ss_cons (s_setF (ps_set (i := 6) sc_law.nd rfl (by first | exact Or.inl rfl | exact Or.inr rfl) (f_op op_rep of_rep (b_ofF (f_lst (av_cons (v_int) (av_nil)))) (b_of (m := true) (v_cb call_lenA cd_len rfl T.m_len PySem.boot_len (a_cons (b_var (pv 4)) (a_nil))))))) (ss_cons (s_for PassesOwn.never rfl (i_seq (b_of (m := false) (v_ofF (f_slice (b_var (pv 13)) (o_none) (o_some (v_un un_neg ud_neg (b_of (m := true) (v_int)))))))) (g_name (pg_name (i := 9) sc_law.nd rfl (by first | exact Or.inl rfl | exact Or.inr rfl))) (ss_cons (s_augL (ps_augS (pv 6) (v_var (pv 9)) get_list (v_int) ip_add set_list)) (ss_one (s_if (p_not (p_objs (T.ok_tb_CanEnd_Stuck) hr (by decide) (b_of (m := true) (v_call (c_judge_space T) hr (by decide) rfl (a_cons (b_var (pv 5)) (a_cons (b_var (pv 6)) (a_nil))) (len_cons (len_cons len_nil)))))) (ss_one (s_ret (v_bl))) (ss_nil))))) (ss_cons (s_augL (ps_augS (pv 6) (v_ix ix_seq od_ix (b_var (pv 13)) (b_of (m := true) (v_un un_neg ud_neg (b_of (m := true) (v_int)))) (fun _ _ => rfl)) get_list (v_int) ip_add set_list)) (ss_cons (s_set (ps_set (i := 7) sc_law.nd rfl (by first | exact Or.inl rfl | exact Or.inr rfl) (v_call (c_judge_space T) hr (by decide) rfl (a_cons (b_var (pv 5)) (a_cons (b_var (pv 6)) (a_nil))) (len_cons (len_cons len_nil))))) (ss_one (s_ret (v_and (v_notOs (T.ok_tb_CanEnd_Stuck) hr (by decide) (b_var (pv 7))) (v_and (v_meth T.ok_Stuck (by decide) (c_Stuck_shows T) hr (by decide) (b_var (pv 7)) (a_cons (b_var (pv 5)) (a_cons (b_var (pv 6)) (a_nil))) (len_cons (len_cons len_nil))) (v_one (v_cmp op_notIn_seq (od_in (neg := true)) (b_of (m := true) (v_ix ix_seq od_ix (b_var (pv 13)) (b_of (m := true) (v_un un_neg ud_neg (b_of (m := true) (v_int)))) (fun _ _ => rfl))) (b_of (m := true) (v_call (c_good_steps T) hr (by decide) rfl (a_cons (b_var (pv 5)) (a_cons (b_ofF (f_comp (own := [("at", 15), ("many", 16)]) rfl sc_law.nd (i_enum T.m_enumerate (a_cons (b_var (pv 6)) (a_nil))) (blkOk_by (own := [("at", 15), ("many", 16)]) (N := N_law) (sc := C8.fnScope s_law) (by decide +kernel)) (fun _ _ _ _ _ => g_tup (n := 2) rfl (gs_cons (g_name (pg_name (i := 15) sc_law.nd rfl (by first | exact Or.inl rfl | exact Or.inr rfl))) (gs_cons (g_name (pg_name (i := 16) sc_law.nd rfl (by first | exact Or.inl rfl | exact Or.inr rfl))) (gs_nil)))) (fun _ _ _ _ _ => ts_nil) (fun _ _ _ _ _ => v_if (p_cmp (op_eqD hr.units) od_eq (b_var (pv 15)) (b_of (m := true) (v_ix ix_seq od_ix (b_var (pv 13)) (b_of (m := true) (v_un un_neg ud_neg (b_of (m := true) (v_int)))) (fun _ _ => rfl))) (nomark _)) (v_op op_sub od_sub (b_var (pv 16)) (b_of (m := true) (v_int))) (v_var (pv 16))))) (a_nil))) (len_cons (len_cons len_nil)))) (by with_unfolding_all rfl)))))))))))))))))))
end

end K77


set_option Elab.async false
set_option linter.all false
set_option maxRecDepth 100000
set_option maxHeartbeats 1000000
namespace K77
/-! ### spaces: the mathematics -/
abbrev Fn := Int → Int
def sm (hd : Fn) (r : List Int) : Int := (r.map hd).sum
theorem sm_nil (hd : Fn) : sm hd [] = 0 := rfl
theorem sm_cons (hd : Fn) (x : Int) (r : List Int) : sm hd (x :: r) = hd x + sm hd r := by simp [sm]
/-- r without x -/
def wo (r : List Int) (x : Int) : List Int := r.filter fun i => decide (i ≠ x)
theorem mem_wo {r : List Int} {x i : Int} : i ∈ wo r x ↔ i ∈ r ∧ i ≠ x := by simp [wo]
theorem wo_comm (r : List Int) (x y : Int) : wo (wo r x) y = wo (wo r y) x := by
  unfold wo
  rw [List.filter_filter, List.filter_filter]
  congr 1
  funext i
  rw [Bool.and_comm]
theorem wo_notMem {r : List Int} {x : Int} (h : x ∉ r) : wo r x = r := by
  unfold wo
  rw [List.filter_eq_self]
  intro i hi
  simp
  rintro rfl
  exact h hi
theorem wo_idem (r : List Int) (x : Int) : wo (wo r x) x = wo r x := wo_notMem fun h => (mem_wo.mp h).2 rfl
theorem wo_nodup {r : List Int} {x : Int} (h : r.Nodup) : (wo r x).Nodup := h.filter _
theorem wo_cons_self {r : List Int} {x : Int} (h : (x :: r).Nodup) : wo (x :: r) x = r := by
  have h := List.nodup_cons.mp h
  have e : wo (x :: r) x = wo r x := by simp [wo]
  rw [e, wo_notMem h.1]
theorem wo_len_lt {r : List Int} {x : Int} (h : x ∈ r) : (wo r x).length < r.length := by
  unfold wo
  have h1 : (r.filter fun i => decide (i ≠ x)).length ≤ r.length := List.length_filter_le _ _
  have h2 : (r.filter fun i => decide (i ≠ x)).length ≠ r.length := fun e => by
    rw [List.length_filter_eq_length_iff] at e
    have := e x h
    simp at this
  omega
theorem wo_perm {r : List Int} {x : Int} (hn : r.Nodup) (h : x ∈ r) : (x :: wo r x).Perm r := by
  have n1 : (x :: wo r x).Nodup := List.nodup_cons.mpr ⟨fun z => (mem_wo.mp z).2 rfl, wo_nodup hn⟩
  refine (List.perm_ext_iff_of_nodup n1 hn).mpr fun i => ?_
  rw [List.mem_cons, mem_wo]
  constructor
  · rintro (rfl | z)
    · exact h
    · exact z.1
  · intro z
    by_cases e : i = x
    · exact .inl e
    · exact .inr ⟨z, e⟩
theorem sm_perm {hd : Fn} {r s : List Int} (h : r.Perm s) : sm hd r = sm hd s := by
  induction h with
  | nil => rfl
  | cons x _ ih => rw [sm_cons, sm_cons, ih]
  | swap x y l => rw [sm_cons, sm_cons, sm_cons, sm_cons]; omega
  | trans _ _ a b => exact a.trans b
theorem sm_wo {hd : Fn} {r : List Int} {x : Int} (hn : r.Nodup) (h : x ∈ r) : sm hd r = hd x + sm hd (wo r x) := by
  rw [← sm_cons, sm_perm (wo_perm hn h)]
theorem sm_congr {f g : Fn} {r : List Int} (h : ∀ i ∈ r, f i = g i) : sm f r = sm g r := by
  unfold sm
  rw [List.map_congr_left h]
theorem sm_nonneg {hd : Fn} : ∀ {r : List Int}, (∀ i ∈ r, 0 ≤ hd i) → 0 ≤ sm hd r
  | [], _ => Int.le_refl 0
  | x :: r, h => by
    rw [sm_cons]
    have h1 := h x List.mem_cons_self
    have h2 := sm_nonneg (r := r) fun i hi => h i (List.mem_cons_of_mem _ hi)
    omega
theorem sm_le {f g : Fn} : ∀ {r : List Int}, (∀ i ∈ r, f i ≤ g i) → sm f r ≤ sm g r
  | [], _ => Int.le_refl 0
  | x :: r, h => by
    rw [sm_cons, sm_cons]
    have h1 := h x List.mem_cons_self
    have h2 := sm_le (r := r) fun i hi => h i (List.mem_cons_of_mem _ hi)
    omega

/-- all in r can end, one after the other -/
inductive Safe (nd hd : Fn) : Int → List Int → Prop
  | nil {f : Int} : Safe nd hd f []
  | step {f : Int} {r : List Int} (x : Int) (hx : x ∈ r) (hf : nd x ≤ f) (h : Safe nd hd (f + hd x) (wo r x)) : Safe nd hd f r
variable {nd hd : Fn}
theorem Safe.mono {f g : Int} {r : List Int} (h : Safe nd hd f r) : f ≤ g → Safe nd hd g r := by
  induction h generalizing g with
  | nil => exact fun _ => .nil
  | step x hx hf _ ih => exact fun e => .step x hx (Int.le_trans hf e) (ih (by omega))
theorem Safe.skip {f : Int} {r : List Int} (h : Safe nd hd f r) (x : Int) : 0 ≤ hd x → Safe nd hd (f + hd x) (wo r x) := by
  intro hx0
  induction h with
  | nil => exact .nil
  | @step f r y hy hf h ih =>
    by_cases e : y = x
    · subst e; exact h
    · refine .step y (mem_wo.mpr ⟨hy, e⟩) (by omega) ?_
      have := ih
      rw [wo_comm] at this
      have e2 : f + hd x + hd y = f + hd y + hd x := by omega
      rw [e2]; exact this
theorem Safe.congr {nd' hd' : Fn} {f : Int} {r : List Int} (h : Safe nd hd f r) : (∀ i ∈ r, nd' i = nd i ∧ hd' i = hd i) → Safe nd' hd' f r := by
  induction h with
  | nil => exact fun _ => .nil
  | @step f r x hx hf h ih =>
    intro e
    refine .step x hx (by rw [(e x hx).1]; exact hf) ?_
    rw [(e x hx).2]
    exact ih fun i hi => e i (mem_wo.mp hi).1
theorem Safe.some_of {f : Int} {r : List Int} (h : Safe nd hd f r) (hr : r ≠ []) : ∃ x ∈ r, nd x ≤ f := by
  cases h with
  | nil => exact absurd rfl hr
  | step x hx hf _ => exact ⟨x, hx, hf⟩

/-! the greedy way -/
def jl (nd hd : Fn) : Nat → Int → List Int → List Int → Bool × List Int × List Int
  | 0, _, o, r => (decide (r = []), o, r)
  | n + 1, f, o, r => if r = [] then (true, o, r) else match r.filter fun i => decide (nd i ≤ f) with
    | [] => (false, o, r)
    | x :: _ => jl nd hd n (f + hd x) (o ++ [x]) (wo r x)
theorem near_mem {f x : Int} {r s : List Int} (e : (r.filter fun i => decide (nd i ≤ f)) = x :: s) : x ∈ r ∧ nd x ≤ f := by
  have : x ∈ r.filter fun i => decide (nd i ≤ f) := by rw [e]; exact List.mem_cons_self
  simpa using this
theorem jl_safe : ∀ {n : Nat} {f : Int} {o r : List Int}, r.length ≤ n → (∀ i ∈ r, 0 ≤ hd i) → ((jl nd hd n f o r).1 = true ↔ Safe nd hd f r)
  | 0, f, o, r, hn, _ => by
    have e : r = [] := List.eq_nil_of_length_eq_zero (by omega)
    subst e
    exact ⟨fun _ => .nil, fun _ => rfl⟩
  | n + 1, f, o, r, hn, h0 => by
    unfold jl
    by_cases e : r = []
    · subst e
      simp
      exact .nil
    · rw [if_neg e]
      split
      · rename_i e2
        refine ⟨fun z => (by cases z), fun z => ?_⟩
        obtain ⟨x, hx, hf⟩ := z.some_of e
        have : x ∈ r.filter fun i => decide (nd i ≤ f) := by simp [hx, hf]
        rw [e2] at this
        cases this
      · rename_i x s e2
        obtain ⟨hx, hf⟩ := near_mem e2
        have hl := wo_len_lt hx
        rw [jl_safe (by omega) (fun i hi => h0 i (mem_wo.mp hi).1)]
        exact ⟨fun z => .step x hx hf z, fun z => z.skip x (h0 x hx)⟩
theorem jl_order : ∀ {n : Nat} {f : Int} {o r : List Int}, r.length ≤ n → r.Nodup → (jl nd hd n f o r).1 = true → (jl nd hd n f o r).2.1.Perm (o ++ r)
  | 0, f, o, r, hn, _, _ => by
    have e : r = [] := List.eq_nil_of_length_eq_zero (by omega)
    subst e
    simp [jl]
  | n + 1, f, o, r, hn, hd', h => by
    unfold jl at h ⊢
    by_cases e : r = []
    · subst e; simp
    · rw [if_neg e] at h ⊢
      split at h
      · cases h
      · rename_i x s e2
        obtain ⟨hx, hf⟩ := near_mem e2
        have hl := wo_len_lt hx
        have q := jl_order (by omega) (wo_nodup hd') h
        refine q.trans ?_
        rw [List.append_assoc]
        exact (List.Perm.refl o).append (wo_perm hd' hx)
/-- where it stands still -/
theorem jl_stuck : ∀ {n : Nat} {f : Int} {o r : List Int}, r.length ≤ n → r.Nodup → (jl nd hd n f o r).1 = false →
    (jl nd hd n f o r).2.2 ≠ [] ∧ (jl nd hd n f o r).2.2.Nodup ∧ (∀ i ∈ (jl nd hd n f o r).2.2, i ∈ r) ∧ ∀ i ∈ (jl nd hd n f o r).2.2, f + sm hd r - sm hd (jl nd hd n f o r).2.2 < nd i
  | 0, f, o, r, hn, _, h => by
    have e : r = [] := List.eq_nil_of_length_eq_zero (by omega)
    subst e
    simp [jl] at h
  | n + 1, f, o, r, hn, hd', h => by
    unfold jl at h ⊢
    by_cases e : r = []
    · subst e; simp at h
    · rw [if_neg e] at h ⊢
      split at h
      · rename_i e2
        refine ⟨e, hd', fun i hi => hi, fun i hi => ?_⟩
        have : ¬ nd i ≤ f := fun z => by
          have : i ∈ r.filter fun i => decide (nd i ≤ f) := by
            simp only [List.mem_filter, decide_eq_true_eq]
            exact ⟨hi, z⟩
          rw [e2] at this
          cases this
        show f + sm hd r - sm hd r < nd i
        omega
      · rename_i x s e2
        obtain ⟨hx, hf⟩ := near_mem e2
        have hl := wo_len_lt hx
        obtain ⟨q1, q2, q3, q4⟩ := jl_stuck (n := n) (f := f + hd x) (o := o ++ [x]) (r := wo r x) (by omega) (wo_nodup hd') h
        refine ⟨q1, q2, fun i hi => (mem_wo.mp (q3 i hi)).1, fun i hi => ?_⟩
        have := q4 i hi
        rw [sm_wo hd' hx]
        show f + (hd x + sm hd (wo r x)) - sm hd (jl nd hd n (f + hd x) (o ++ [x]) (wo r x)).2.2 < nd i
        omega
/-- letting go of all that some hold -/
theorem Safe.release {nd' hd' : Fn} {E : Int → Bool} {f : Int} {r : List Int} (h : Safe nd hd f r) : r.Nodup → (∀ i ∈ r, 0 ≤ hd i) → (∀ i ∈ r, nd' i = (if E i then nd i + hd i else nd i) ∧ hd' i = if E i then 0 else hd i) →
    Safe nd' hd' (f + sm (fun i => if E i then hd i else 0) r) r := by
  induction h with
  | nil => exact fun _ _ _ => .nil
  | @step f r x hx hf h ih =>
    intro hn h0 he
    have ih := ih (wo_nodup hn) (fun i hi => h0 i (mem_wo.mp hi).1) (fun i hi => he i (mem_wo.mp hi).1)
    have p1 : 0 ≤ sm (fun i => if E i then hd i else 0) (wo r x) := sm_nonneg fun i hi => by
      show 0 ≤ if E i then hd i else 0
      split
      · exact h0 i (mem_wo.mp hi).1
      · exact Int.le_refl 0
    obtain ⟨e1, e2⟩ := he x hx
    have p2 := h0 x hx
    rw [sm_wo hn hx]
    by_cases hE : E x = true
    · rw [if_pos hE] at e1 e2
      refine .step x hx (by rw [e1, if_pos hE]; omega) ?_
      rw [e2, if_pos hE]
      have e3 : f + (hd x + sm (fun i => if E i then hd i else 0) (wo r x)) + 0 = f + hd x + sm (fun i => if E i then hd i else 0) (wo r x) := by omega
      rw [e3]; exact ih
    · rw [if_neg hE] at e1 e2
      refine .step x hx (by rw [e1, if_neg hE]; omega) ?_
      rw [e2, if_neg hE]
      have e3 : f + (0 + sm (fun i => if E i then hd i else 0) (wo r x)) + hd x = f + hd x + sm (fun i => if E i then hd i else 0) (wo r x) := by omega
      rw [e3]; exact ih
/-- nd, hd with one more at x -/
def ndx (nd : Fn) (x : Int) : Fn := fun i => if i = x then nd i - 1 else nd i
def hdx (hd : Fn) (x : Int) : Fn := fun i => if i = x then hd i + 1 else hd i
theorem Safe.good {f : Int} {r : List Int} (h : Safe nd hd f r) : (∀ i ∈ r, 0 ≤ hd i) → 0 < f → (∃ i ∈ r, 0 < nd i) → ∃ i ∈ r, 0 < nd i ∧ Safe (ndx nd i) (hdx hd i) (f - 1) r := by
  induction h with
  | nil => rintro _ _ ⟨i, hi, _⟩; cases hi
  | @step f r x hx hf h ih =>
    intro h0 hp ⟨i, hi, hni⟩
    by_cases hx0 : 0 < nd x
    · refine ⟨x, hx, hx0, .step x hx (by simp only [ndx, if_true]; omega) ?_⟩
      have e : f - 1 + hdx hd x x = f + hd x := by simp only [hdx, if_true]; omega
      rw [e]
      refine h.congr fun j hj => ?_
      have ne := (mem_wo.mp hj).2
      simp only [ndx, hdx, if_neg ne, and_self]
    · have ne : i ≠ x := by rintro rfl; exact hx0 hni
      obtain ⟨j, hj, hnj, s⟩ := ih (fun i hi => h0 i (mem_wo.mp hi).1) (by have := h0 x hx; omega) ⟨i, mem_wo.mpr ⟨hi, ne⟩, hni⟩
      have nj := (mem_wo.mp hj).2
      refine ⟨j, (mem_wo.mp hj).1, hnj, .step x hx (by simp only [ndx, if_neg (Ne.symm nj)]; omega) ?_⟩
      have e : f - 1 + hdx hd j x = f + hd x - 1 := by simp only [hdx, if_neg (Ne.symm nj)]; omega
      rw [e]; exact s
/-- nothing held: all end if each claim fits -/
theorem safe_zero {f : Int} {r : List Int} (h0 : ∀ i ∈ r, hd i = 0) : Safe nd hd f r ↔ ∀ i ∈ r, nd i ≤ f := by
  constructor
  · intro h
    induction h with
    | nil => intro i hi; cases hi
    | @step f r x hx hf h ih =>
      intro i hi
      by_cases e : i = x
      · rw [e]; exact hf
      · have := ih (fun i hi => h0 i (mem_wo.mp hi).1) i (mem_wo.mpr ⟨hi, e⟩)
        rw [h0 x hx] at this
        omega
  · intro h
    generalize hn : r.length = n
    induction n using Nat.strongRecOn generalizing r with
    | _ n ih =>
      cases r with
      | nil => exact .nil
      | cons x s =>
        have hx : x ∈ x :: s := List.mem_cons_self
        refine .step x hx (h x hx) ?_
        rw [h0 x hx, Int.add_zero]
        have hl := wo_len_lt hx
        exact ih _ (by omega) (fun i hi => h0 i (mem_wo.mp hi).1) (fun i hi => h i (mem_wo.mp hi).1) rfl

/-! ### states as lists -/
def cg (l : List Int) (i : Int) : Int := l.getD i.toNat 0
def rg (n : Nat) : List Int := (List.range n).map fun (i : Nat) => (i : Int)
theorem rg_len (n : Nat) : (rg n).length = n := by simp [rg]
theorem mem_rg {n : Nat} {i : Int} : i ∈ rg n ↔ 0 ≤ i ∧ i < n := by
  unfold rg
  rw [List.mem_map]
  constructor
  · rintro ⟨j, hj, rfl⟩
    rw [List.mem_range] at hj
    omega
  · rintro ⟨h1, h2⟩
    exact ⟨i.toNat, by rw [List.mem_range]; omega, by omega⟩
theorem rg_nodup (n : Nat) : (rg n).Nodup := by
  unfold rg List.Nodup
  rw [List.pairwise_map]
  exact List.nodup_range.imp fun h e => h (by omega)
theorem map_cg (c : List Int) : (rg c.length).map (cg c) = c := by
  unfold rg
  rw [List.map_map]
  apply List.ext_getElem
  · simp
  · intro i h1 h2
    simp [cg, List.getD, h2]
theorem sm_cg (c : List Int) : sm (cg c) (rg c.length) = c.sum := by unfold sm; rw [map_cg]
theorem sm_map (γ : Int → Int) (c : List Int) : sm (fun i => γ (cg c i)) (rg c.length) = (c.map γ).sum := by
  have e : (rg c.length).map (fun i => γ (cg c i)) = ((rg c.length).map (cg c)).map γ := by rw [List.map_map]; rfl
  unfold sm
  rw [e, map_cg]
theorem sm_add (f g : Fn) : ∀ r : List Int, sm (fun i => f i + g i) r = sm f r + sm g r
  | [] => rfl
  | x :: r => by rw [sm_cons, sm_cons, sm_cons, sm_add f g r]; omega
theorem sm_sub (f g : Fn) : ∀ r : List Int, sm (fun i => f i - g i) r = sm f r - sm g r
  | [] => rfl
  | x :: r => by rw [sm_cons, sm_cons, sm_cons, sm_sub f g r]; omega
theorem sm_subset {f : Fn} : ∀ {r s : List Int}, r.Nodup → s.Nodup → (∀ i ∈ r, i ∈ s) → (∀ i ∈ s, 0 ≤ f i) → sm f r ≤ sm f s
  | [], s, _, _, _, h => sm_nonneg h
  | x :: r, s, hr, hs, hm, h => by
    have hr' := List.nodup_cons.mp hr
    have hx := hm x List.mem_cons_self
    rw [sm_cons, sm_wo hs hx]
    have := sm_subset (f := f) (r := r) (s := wo s x) hr'.2 (wo_nodup hs) (fun i hi => mem_wo.mpr ⟨hm i (List.mem_cons_of_mem _ hi), by rintro rfl; exact hr'.1 hi⟩) (fun i hi => h i (mem_wo.mp hi).1)
    omega
theorem sm_lb {f : Fn} {a : Int} (ha : 0 ≤ a) : ∀ {r : List Int}, r ≠ [] → (∀ i ∈ r, a + 1 ≤ f i) → a + r.length ≤ sm f r
  | [], h, _ => absurd rfl h
  | [x], _, h => by
    have := h x (by simp)
    rw [sm_cons, sm_nil]
    simp
    omega
  | x :: y :: r, _, h => by
    have h1 := h x List.mem_cons_self
    have h2 := sm_lb (f := f) ha (r := y :: r) (by simp) fun i hi => h i (List.mem_cons_of_mem _ hi)
    rw [sm_cons, List.length_cons]
    omega
theorem sm_one (f : Fn) : ∀ r : List Int, sm (fun i => f i - 1) r = sm f r - r.length
  | [] => rfl
  | x :: r => by rw [sm_cons, sm_cons, sm_one f r, List.length_cons]; omega

structure Valid (p : Int) (c h : List Int) : Prop where
  len : h.length = c.length
  lo : ∀ i ∈ rg c.length, 0 ≤ cg h i
  hi : ∀ i ∈ rg c.length, cg h i ≤ cg c i
  sum : h.sum ≤ p
def SafeSt (p : Int) (c h : List Int) : Prop := Safe (fun i => cg c i - cg h i) (cg h) (p - h.sum) (rg c.length)
theorem Valid.smh {p : Int} {c h : List Int} (v : Valid p c h) : sm (cg h) (rg c.length) = h.sum := by rw [← v.len, sm_cg]
def gam (x : Int) : Int := if 0 < x then x - 1 else 0
def enough (c : List Int) : Int := ((c.filter fun x => decide (0 < x)).map fun x => x - 1).sum + if (c.any fun x => decide (0 < x)) = true then 1 else 0
theorem gam_sum : ∀ c : List Int, ((c.filter fun x => decide (0 < x)).map fun x => x - 1).sum = (c.map gam).sum
  | [] => rfl
  | x :: c => by
    have ih := gam_sum c
    by_cases h : 0 < x
    · simp [h, gam, ← ih]
    · simp [h, gam, ← ih]
theorem cg_mem {c : List Int} {i : Int} (h : i ∈ rg c.length) : cg c i ∈ c := by
  rw [mem_rg] at h
  have : i.toNat < c.length := by omega
  unfold cg
  simp [List.getD, this]
theorem enough_safe {p : Int} {c h : List Int} (v : Valid p c h) (he : enough c ≤ p) : SafeSt p c h := by
  unfold SafeSt
  rw [← jl_safe (n := (rg c.length).length) (o := []) (Nat.le_refl _) v.lo]
  cases e : (jl (fun i => cg c i - cg h i) (cg h) (rg c.length).length (p - h.sum) [] (rg c.length)).1 with
  | true => rfl
  | false =>
    exfalso
    obtain ⟨q1, q2, q3, q4⟩ := jl_stuck (Nat.le_refl _) (rg_nodup _) e
    generalize (jl (fun i => cg c i - cg h i) (cg h) (rg c.length).length (p - h.sum) [] (rg c.length)).2.2 = R at q1 q2 q3 q4
    rw [v.smh] at q4
    have hR : sm (cg h) R ≤ h.sum := by
      rw [← v.smh]
      exact sm_subset q2 (rg_nodup _) q3 v.lo
    have hs := v.sum
    have a0 : 0 ≤ p - sm (cg h) R := by omega
    have b1 := sm_lb (f := fun i => cg c i - cg h i) a0 q1 fun i hi => by
      have := q4 i hi
      show p - sm (cg h) R + 1 ≤ cg c i - cg h i
      omega
    rw [sm_sub] at b1
    have pos : ∀ i ∈ R, 0 < cg c i := fun i hi => by
      have := q4 i hi
      have := v.lo i (q3 i hi)
      omega
    have b2 : sm (fun i => gam (cg c i)) R = sm (cg c) R - R.length := by
      rw [← sm_one]
      exact sm_congr fun i hi => by simp [gam, pos i hi]
    have b3 : sm (fun i => gam (cg c i)) R ≤ sm (fun i => gam (cg c i)) (rg c.length) := sm_subset q2 (rg_nodup _) q3 fun i _ => by
      show 0 ≤ gam (cg c i)
      unfold gam
      split <;> omega
    rw [sm_map] at b3
    have b4 : (c.any fun x => decide (0 < x)) = true := by
      cases R with
      | nil => exact absurd rfl q1
      | cons x r => exact List.any_eq_true.mpr ⟨cg c x, cg_mem (q3 x List.mem_cons_self), by simpa using pos x List.mem_cons_self⟩
    unfold enough at he
    rw [gam_sum, if_pos b4] at he
    omega
theorem spread : ∀ (c : List Int) (p : Int), 0 ≤ p → p ≤ (c.map gam).sum → ∃ h : List Int, h.length = c.length ∧ h.sum = p ∧ ∀ j : Nat, 0 ≤ h.getD j 0 ∧ h.getD j 0 ≤ gam (c.getD j 0)
  | [], p, h0, h1 => ⟨[], rfl, by simp at h1 ⊢; omega, fun j => by simp [gam]⟩
  | x :: c, p, h0, h1 => by
    have g0 : 0 ≤ gam x := by unfold gam; split <;> omega
    simp only [List.map_cons, List.sum_cons] at h1
    by_cases hx : p ≤ gam x
    · have s0 : ∀ c : List Int, 0 ≤ (c.map gam).sum := fun c => by
        induction c with
        | nil => simp
        | cons y r ih =>
          simp only [List.map_cons, List.sum_cons]
          have : 0 ≤ gam y := by unfold gam; split <;> omega
          omega
      obtain ⟨h, e1, e2, e3⟩ := spread c 0 (Int.le_refl 0) (s0 c)
      refine ⟨p :: h, by simp [e1], by simp [e2], fun j => ?_⟩
      cases j with
      | zero => simp; omega
      | succ j => simpa using e3 j
    · obtain ⟨h, e1, e2, e3⟩ := spread c (p - gam x) (by omega) (by omega)
      refine ⟨gam x :: h, by simp [e1], by simp [e2]; omega, fun j => ?_⟩
      cases j with
      | zero => simp; omega
      | succ j => simpa using e3 j
theorem not_safe_of {nd hd : Fn} {c : Fn} {f : Int} {r : List Int} (h : Safe nd hd f r) : f = 0 → (∀ i ∈ r, 0 < c i → 1 ≤ nd i) → (∀ i ∈ r, ¬ 0 < c i → hd i = 0) → (∃ i ∈ r, 0 < c i) → False := by
  induction h with
  | nil => rintro _ _ _ ⟨i, hi, _⟩; cases hi
  | @step f r x hx hf h ih =>
    rintro rfl h1 h2 ⟨i, hi, hc⟩
    have nx : ¬ 0 < c x := fun z => by have := h1 x hx z; omega
    refine ih (by rw [h2 x hx nx]; omega) (fun i hi => h1 i (mem_wo.mp hi).1) (fun i hi => h2 i (mem_wo.mp hi).1) ⟨i, mem_wo.mpr ⟨hi, ?_⟩, hc⟩
    rintro rfl
    exact nx hc
theorem not_enough {p : Int} {c : List Int} (hp : 0 ≤ p) (hc : ∀ x ∈ c, 0 ≤ x) (he : p < enough c) : ∃ h, Valid p c h ∧ ¬ SafeSt p c h := by
  unfold enough at he
  rw [gam_sum] at he
  have hany : (c.any fun x => decide (0 < x)) = true := by
    by_cases z : (c.any fun x => decide (0 < x)) = true
    · exact z
    · exfalso
      rw [if_neg z] at he
      have : ∀ c : List Int, ¬ (c.any fun x => decide (0 < x)) = true → (c.map gam).sum = 0 := fun c => by
        induction c with
        | nil => intro _; rfl
        | cons y r ih =>
          intro z
          simp only [List.any_cons, Bool.or_eq_true, decide_eq_true_eq, not_or] at z
          simp only [List.map_cons, List.sum_cons, gam, if_neg z.1]
          have := ih z.2
          omega
      rw [this c z] at he
      omega
  rw [if_pos hany] at he
  obtain ⟨h, e1, e2, e3⟩ := spread c p hp (by omega)
  refine ⟨h, ⟨e1, fun i hi => (e3 i.toNat).1, fun i hi => ?_, by omega⟩, fun s => ?_⟩
  · have := (e3 i.toNat).2
    have n := hc _ (cg_mem hi)
    show h.getD i.toNat 0 ≤ c.getD i.toNat 0
    unfold gam at this
    unfold cg at n
    split at this <;> omega
  · refine not_safe_of (c := cg c) s (by omega) (fun i hi z => ?_) (fun i hi z => ?_) ?_
    · have := (e3 i.toNat).2
      show 1 ≤ c.getD i.toNat 0 - h.getD i.toNat 0
      have z : 0 < c.getD i.toNat 0 := z
      unfold gam at this
      rw [if_pos z] at this
      omega
    · have := e3 i.toNat
      have z : ¬ 0 < c.getD i.toNat 0 := z
      unfold gam at this
      rw [if_neg z] at this
      show h.getD i.toNat 0 = 0
      omega
    · obtain ⟨x, hx, hx0⟩ := List.any_eq_true.mp hany
      obtain ⟨j, hj, e⟩ := List.getElem_of_mem hx
      refine ⟨(j : Int), mem_rg.mpr (by omega), ?_⟩
      unfold cg
      simp [List.getD, hj, e]
      simpa using hx0

/-! ### steps -/
def inc (h : List Int) (i : Int) : List Int := h.set i.toNat (cg h i + 1)
theorem inc_len (h : List Int) (i : Int) : (inc h i).length = h.length := by simp [inc]
theorem cg_inc {h : List Int} {i j : Int} (hi : i ∈ rg h.length) (hj : j ∈ rg h.length) : cg (inc h i) j = if j = i then cg h j + 1 else cg h j := by
  rw [mem_rg] at hi hj
  unfold inc cg
  rw [List.getD_eq_getElem?_getD, List.getElem?_set]
  by_cases e : j = i
  · subst e
    rw [if_pos rfl, if_pos (by omega), if_pos rfl]
    rfl
  · rw [if_neg (by omega), if_neg e]
    rfl
theorem sum_set : ∀ (h : List Int) (j : Nat) (x : Int), j < h.length → (h.set j x).sum = h.sum - h.getD j 0 + x
  | [], j, x, hj => by simp at hj
  | y :: h, 0, x, _ => by simp; omega
  | y :: h, j + 1, x, hj => by
    have := sum_set h j x (by simpa using hj)
    simp at this ⊢
    omega
theorem inc_sum {h : List Int} {i : Int} (hi : i ∈ rg h.length) : (inc h i).sum = h.sum + 1 := by
  rw [mem_rg] at hi
  unfold inc
  rw [sum_set _ _ _ (by omega)]
  unfold cg
  omega
theorem Valid.inc {p : Int} {c h : List Int} {i : Int} (v : Valid p c h) (hi : i ∈ rg c.length) (h1 : cg h i < cg c i) (h2 : h.sum < p) : Valid p c (inc h i) := by
  have hi' : i ∈ rg h.length := by rw [v.len]; exact hi
  refine ⟨by rw [inc_len, v.len], fun j hj => ?_, fun j hj => ?_, by rw [inc_sum hi']; omega⟩
  · rw [cg_inc hi' (by rw [v.len]; exact hj)]
    have := v.lo j hj
    split <;> omega
  · rw [cg_inc hi' (by rw [v.len]; exact hj)]
    have := v.hi j hj
    split
    · rename_i e
      rw [e]; omega
    · exact this
theorem SafeSt.of_inc {p : Int} {c h : List Int} {i : Int} (v : Valid p c h) (hi : i ∈ rg c.length) : SafeSt p c (inc h i) ↔ Safe (ndx (fun i => cg c i - cg h i) i) (hdx (cg h) i) (p - h.sum - 1) (rg c.length) := by
  have hi' : i ∈ rg h.length := by rw [v.len]; exact hi
  unfold SafeSt
  rw [inc_sum hi', show p - (h.sum + 1) = p - h.sum - 1 by omega]
  have e : ∀ j ∈ rg c.length, cg (inc h i) j = hdx (cg h) i j ∧ cg c j - cg (inc h i) j = ndx (fun i => cg c i - cg h i) i j := fun j hj => by
    rw [cg_inc hi' (by rw [v.len]; exact hj)]
    unfold hdx ndx
    by_cases e : j = i
    · rw [if_pos e, if_pos e]
      exact ⟨rfl, by show cg c j - (cg h j + 1) = cg c j - cg h j - 1; omega⟩
    · rw [if_neg e, if_neg e]
      exact ⟨rfl, rfl⟩
  exact ⟨fun s => s.congr fun j hj => ⟨(e j hj).2.symm, (e j hj).1.symm⟩, fun s => s.congr fun j hj => ⟨(e j hj).2, (e j hj).1⟩⟩
theorem good_exists {p : Int} {c h : List Int} (v : Valid p c h) (s : SafeSt p c h) (h1 : h.sum < p) (h2 : ∃ i ∈ rg c.length, cg h i < cg c i) : ∃ i ∈ rg c.length, cg h i < cg c i ∧ SafeSt p c (inc h i) := by
  obtain ⟨j, hj, hlt⟩ := h2
  obtain ⟨i, hi, h3, h4⟩ := Safe.good s v.lo (by omega) ⟨j, hj, by omega⟩
  exact ⟨i, hi, by omega, (SafeSt.of_inc v hi).mpr h4⟩
/-- letting go -/
theorem SafeSt.release {p : Int} {c h h' : List Int} {E : Int → Bool} (v : Valid p c h) (s : SafeSt p c h) (hl : h'.length = h.length) (he : ∀ i ∈ rg c.length, cg h' i = if E i then 0 else cg h i) : Valid p c h' ∧ SafeSt p c h' := by
  have hl' : h'.length = c.length := by rw [hl, v.len]
  have e1 : sm (cg h') (rg c.length) = h.sum - sm (fun i => if E i then cg h i else 0) (rg c.length) := by
    rw [← v.smh, ← sm_sub]
    refine sm_congr fun i hi => ?_
    rw [he i hi]
    split <;> omega
  have e2 : sm (cg h') (rg c.length) = h'.sum := by rw [← hl', sm_cg]
  have n : 0 ≤ sm (fun i => if E i then cg h i else 0) (rg c.length) := sm_nonneg fun i hi => by
    show 0 ≤ if E i then cg h i else 0
    have := v.lo i hi
    split <;> omega
  refine ⟨⟨hl', fun i hi => ?_, fun i hi => ?_, by have := v.sum; omega⟩, ?_⟩
  · rw [he i hi]
    have := v.lo i hi
    split <;> omega
  · rw [he i hi]
    have := v.lo i hi
    have := v.hi i hi
    split <;> omega
  · have q := Safe.release (nd' := fun i => cg c i - cg h' i) (hd' := cg h') (E := E) s (rg_nodup _) v.lo fun i hi => by
      rw [he i hi]
      constructor
      · show cg c i - _ = _
        split <;> omega
      · rfl
    unfold SafeSt
    have e3 : p - h'.sum = p - h.sum + sm (fun i => if E i then cg h i else 0) (rg c.length) := by omega
    rw [e3]
    exact q

/-! ### all that is reached -/
/-- a list that holds the first state and all next ones holds every state -/
theorem all_in {p : Int} {c : List Int} {ks : List (List Int)} (h0 : List.replicate c.length 0 ∈ ks) (hk : ∀ k ∈ ks, Valid p c k) (hs : ∀ k ∈ ks, ∀ i ∈ rg c.length, cg k i < cg c i → k.sum < p → inc k i ∈ ks) : ∀ (n : Nat) (h : List Int), h.sum = n → Valid p c h → h ∈ ks
  | 0, h, e, v => by
    have : h = List.replicate c.length 0 := by
      apply List.ext_getElem
      · rw [v.len]; simp
      · intro i h1 h2
        have z : ∀ i ∈ rg c.length, cg h i = 0 := by
          have e2 : sm (cg h) (rg c.length) = 0 := by rw [v.smh, e]; rfl
          have go : ∀ r : List Int, (∀ i ∈ r, 0 ≤ cg h i) → sm (cg h) r = 0 → ∀ i ∈ r, cg h i = 0 := fun r => by
            induction r with
            | nil => intro _ _ i hi; cases hi
            | cons x r ih =>
              intro h0 hs i hi
              rw [sm_cons] at hs
              have a := h0 x List.mem_cons_self
              have b := sm_nonneg (hd := cg h) (r := r) fun i hi => h0 i (List.mem_cons_of_mem _ hi)
              rcases List.mem_cons.mp hi with rfl | hi
              · omega
              · exact ih (fun i hi => h0 i (List.mem_cons_of_mem _ hi)) (by omega) i hi
          exact go _ v.lo e2
        have := z (i : Int) (mem_rg.mpr ⟨by omega, by rw [v.len] at h1; omega⟩)
        unfold cg at this
        simp [List.getD, h1] at this
        simp [this]
    rw [this]; exact h0
  | n + 1, h, e, v => by
    have : ∃ i ∈ rg c.length, 0 < cg h i := by
      apply Classical.byContradiction
      intro z
      have : sm (cg h) (rg c.length) ≤ 0 := by
        have q := sm_le (f := cg h) (g := fun _ => 0) (r := rg c.length) fun i hi => by
          apply Classical.byContradiction
          intro y
          exact z ⟨i, hi, by omega⟩
        have e3 : ∀ r : List Int, sm (fun _ => 0) r = 0 := fun r => by
          induction r with
          | nil => rfl
          | cons x r ih => rw [sm_cons, ih]; rfl
        rw [e3] at q
        exact q
      rw [v.smh, e] at this
      omega
    obtain ⟨i, hi, hp⟩ := this
    have hi2 := mem_rg.mp hi
    let k := h.set i.toNat (cg h i - 1)
    have lk : k.length = h.length := by simp [k]
    have hiK : i ∈ rg k.length := by rw [lk, v.len]; exact hi
    have cgk : ∀ j ∈ rg c.length, cg k j = if j = i then cg h j - 1 else cg h j := fun j hj => by
      have hj2 := mem_rg.mp hj
      show (h.set i.toNat (cg h i - 1)).getD j.toNat 0 = _
      rw [List.getD_eq_getElem?_getD, List.getElem?_set]
      by_cases e : j = i
      · subst e
        rw [if_pos rfl, if_pos (by rw [v.len]; omega), if_pos rfl]
        rfl
      · rw [if_neg (by omega), if_neg e]
        rfl
    have sk : k.sum = n := by
      show (h.set i.toNat (cg h i - 1)).sum = n
      rw [sum_set _ _ _ (by rw [v.len]; omega)]
      unfold cg
      omega
    have vk : Valid p c k := by
      refine ⟨by rw [lk, v.len], fun j hj => ?_, fun j hj => ?_, by have := v.sum; omega⟩
      · rw [cgk j hj]
        have := v.lo j hj
        split
        · rename_i e; rw [e]; omega
        · exact this
      · rw [cgk j hj]
        have := v.hi j hj
        split <;> omega
    have m := all_in h0 hk hs n k sk vk
    have ek : inc k i = h := by
      unfold inc
      have e1 := cgk i hi
      rw [if_pos rfl] at e1
      rw [e1]
      show (h.set i.toNat (cg h i - 1)).set i.toNat (cg h i - 1 + 1) = h
      rw [List.set_set, show cg h i - 1 + 1 = cg h i by omega]
      apply List.ext_getElem
      · simp
      · intro j h1 h2
        rw [List.getElem_set]
        split
        · rename_i e
          subst e
          unfold cg
          simp [List.getD, h2]
        · rfl
    rw [← ek]
    have e1 := cgk i hi
    rw [if_pos rfl] at e1
    have := v.hi i hi
    have := v.sum
    exact hs k m i hi (by omega) (by omega)
theorem mem_of_valid {p : Int} {c : List Int} {ks : List (List Int)} (h0 : List.replicate c.length 0 ∈ ks) (hk : ∀ k ∈ ks, Valid p c k) (hs : ∀ k ∈ ks, ∀ i ∈ rg c.length, cg k i < cg c i → k.sum < p → inc k i ∈ ks) {h : List Int} (v : Valid p c h) : h ∈ ks := by
  have : 0 ≤ h.sum := by rw [← v.smh]; exact sm_nonneg v.lo
  exact all_in h0 hk hs h.sum.toNat h (by omega) v
end K77


set_option Elab.async false
set_option linter.all false
set_option maxRecDepth 100000
set_option maxHeartbeats 4000000
namespace K77
open PySem DL
/-! ### what the defs compute on whole numbers -/
theorem e_is_integer (i : Int) : f_is_integer [.int i] = some (.bl true) := by
  simp [f_is_integer, d_is_integer, isi_int, isi_int_bool, runP, runI, runE, argE, argS, List.map_cons, List.map_nil, List.length_cons, List.length_nil, List.cons_append, List.nil_append, List.append_nil, List.replicate, eC, eVar, eVarB, eVarL, eOp, eUn, eL, aNil, aCons, bTest, bNot, bAnd, bOr, eAnd, eOr, eNot, eIf, eChain, eAttr, eIt, eItL, bName, bNil, bCons, bTup, bYes, cNext, cDrop, cRet, cSet, cSetF, cAsg, cAug, cPar, xNil, xVal, xOwn, putXs, S.put, Option.bind_some, Option.map_some, Option.bind_none, Option.map_none, List.getElem?_cons_zero, List.getElem?_cons_succ, List.set_cons_zero, List.set_cons_succ, d2I, gAdd, gSub, gLt, gLe, gGt, gGe, gAugAdd, gEq, gNe, gLen, gList, gTuple, gSumA, gIx, intsOf_map, asSeq, enLT, if_true, if_false, Nat.sub_self, Nat.add_one_sub_one]
theorem e_is_number (i a b : Int) : f_is_number [.int i, .int a, .int b] = some (.bl (decide (a ≤ i) && decide (i ≤ b))) := by
  by_cases h : a ≤ i <;> simp [f_is_number, d_is_number, e_is_integer, h, runP, runI, runE, argE, argS, List.map_cons, List.map_nil, List.length_cons, List.length_nil, List.cons_append, List.nil_append, List.append_nil, List.replicate, eC, eVar, eVarB, eVarL, eOp, eUn, eL, aNil, aCons, bTest, bNot, bAnd, bOr, eAnd, eOr, eNot, eIf, eChain, eAttr, eIt, eItL, bName, bNil, bCons, bTup, bYes, cNext, cDrop, cRet, cSet, cSetF, cAsg, cAug, cPar, xNil, xVal, xOwn, putXs, S.put, Option.bind_some, Option.map_some, Option.bind_none, Option.map_none, List.getElem?_cons_zero, List.getElem?_cons_succ, List.set_cons_zero, List.set_cons_succ, d2I, gAdd, gSub, gLt, gLe, gGt, gGe, gAugAdd, gEq, gNe, gLen, gList, gTuple, gSumA, gIx, intsOf_map, asSeq, enLT, if_true, if_false, Nat.sub_self, Nat.add_one_sub_one]
theorem e_is_row_lst (xs : List D) : f_is_row [.lst xs] = some (.bl true) := by
  simp [f_is_row, d_is_row, isi_row_lst, runP, runI, runE, argE, argS, List.map_cons, List.map_nil, List.length_cons, List.length_nil, List.cons_append, List.nil_append, List.append_nil, List.replicate, eC, eVar, eVarB, eVarL, eOp, eUn, eL, aNil, aCons, bTest, bNot, bAnd, bOr, eAnd, eOr, eNot, eIf, eChain, eAttr, eIt, eItL, bName, bNil, bCons, bTup, bYes, cNext, cDrop, cRet, cSet, cSetF, cAsg, cAug, cPar, xNil, xVal, xOwn, putXs, S.put, Option.bind_some, Option.map_some, Option.bind_none, Option.map_none, List.getElem?_cons_zero, List.getElem?_cons_succ, List.set_cons_zero, List.set_cons_succ, d2I, gAdd, gSub, gLt, gLe, gGt, gGe, gAugAdd, gEq, gNe, gLen, gList, gTuple, gSumA, gIx, intsOf_map, asSeq, enLT, if_true, if_false, Nat.sub_self, Nat.add_one_sub_one]
theorem e_is_row_tup (xs : List D) : f_is_row [.tup xs] = some (.bl true) := by
  simp [f_is_row, d_is_row, isi_row_tup, runP, runI, runE, argE, argS, List.map_cons, List.map_nil, List.length_cons, List.length_nil, List.cons_append, List.nil_append, List.append_nil, List.replicate, eC, eVar, eVarB, eVarL, eOp, eUn, eL, aNil, aCons, bTest, bNot, bAnd, bOr, eAnd, eOr, eNot, eIf, eChain, eAttr, eIt, eItL, bName, bNil, bCons, bTup, bYes, cNext, cDrop, cRet, cSet, cSetF, cAsg, cAug, cPar, xNil, xVal, xOwn, putXs, S.put, Option.bind_some, Option.map_some, Option.bind_none, Option.map_none, List.getElem?_cons_zero, List.getElem?_cons_succ, List.set_cons_zero, List.set_cons_succ, d2I, gAdd, gSub, gLt, gLe, gGt, gGe, gAugAdd, gEq, gNe, gLen, gList, gTuple, gSumA, gIx, intsOf_map, asSeq, enLT, if_true, if_false, Nat.sub_self, Nat.add_one_sub_one]
def spD (p : Int) (c : List Int) : D := .obj 0 [.int p, .tup (c.map .int)]
theorem e_Space {p : Int} {c : List Int} {x : Sl} (hx : x = .bor (.lst (c.map .int)) ∨ x = .val (.tup (c.map .int))) (hp : 0 ≤ p ∧ p ≤ 12) (hl : 1 ≤ c.length ∧ c.length ≤ 4) (hc : ∀ x ∈ c, 0 ≤ x ∧ x ≤ 6) :
    ∃ s', d_Space_init ⟨[.slf 0 [], .val (.int p), x, .no, .no], 0, []⟩ = some (.nx s') ∧ slfAt 0 0 s' = some [.int p, .tup (c.map .int)] := by
  unfold d_Space_init
  have h0 := hp.1
  have h1 := hp.2
  have h2 := hl.1
  have h3 := hl.2
  rw [cSeq_nx (s1 := ⟨[.slf 0 [], .val (.int p), x, .no, .no], 0, []⟩) ((cIf_ff (by simp [e_is_number, h0, h1, runP, runI, runE, argE, argS, List.map_cons, List.map_nil, List.length_cons, List.length_nil, List.cons_append, List.nil_append, List.append_nil, List.replicate, eC, eVar, eVarB, eVarL, eOp, eUn, eL, aNil, aCons, bTest, bNot, bAnd, bOr, eAnd, eOr, eNot, eIf, eChain, eAttr, eIt, eItL, bName, bNil, bCons, bTup, bYes, cNext, cDrop, cRet, cSet, cSetF, cAsg, cAug, cPar, xNil, xVal, xOwn, putXs, S.put, Option.bind_some, Option.map_some, Option.bind_none, Option.map_none, List.getElem?_cons_zero, List.getElem?_cons_succ, List.set_cons_zero, List.set_cons_succ, d2I, gAdd, gSub, gLt, gLe, gGt, gGe, gAugAdd, gEq, gNe, gLen, gList, gTuple, gSumA, gIx, intsOf_map, asSeq, enLT, if_true, if_false, Nat.sub_self, Nat.add_one_sub_one])).trans rfl)]
  rw [cSeq_nx (s1 := ⟨[.slf 0 [], .val (.int p), x, .no, .no], 0, []⟩) ((cIf_ff (by rcases hx with rfl | rfl <;> simp [e_is_row_lst, e_is_row_tup, runP, runI, runE, argE, argS, List.map_cons, List.map_nil, List.length_cons, List.length_nil, List.cons_append, List.nil_append, List.append_nil, List.replicate, eC, eVar, eVarB, eVarL, eOp, eUn, eL, aNil, aCons, bTest, bNot, bAnd, bOr, eAnd, eOr, eNot, eIf, eChain, eAttr, eIt, eItL, bName, bNil, bCons, bTup, bYes, cNext, cDrop, cRet, cSet, cSetF, cAsg, cAug, cPar, xNil, xVal, xOwn, putXs, S.put, Option.bind_some, Option.map_some, Option.bind_none, Option.map_none, List.getElem?_cons_zero, List.getElem?_cons_succ, List.set_cons_zero, List.set_cons_succ, d2I, gAdd, gSub, gLt, gLe, gGt, gGe, gAugAdd, gEq, gNe, gLen, gList, gTuple, gSumA, gIx, intsOf_map, asSeq, enLT, if_true, if_false, Nat.sub_self, Nat.add_one_sub_one] <;> simp [show (1 : Int) ≤ c.length by omega, show (c.length : Int) ≤ 4 by omega])).trans rfl)]
  obtain ⟨s', h4, a, b, rfl⟩ := cFor_inv (P := fun _ s => ∃ a b, s = ⟨[.slf 0 [], .val (.int p), x, a, b], 0, []⟩) (items := enumD (c.map .int)) (s := ⟨[.slf 0 [], .val (.int p), x, .no, .no], 0, []⟩) (s1 := ⟨[.slf 0 [], .val (.int p), x, .no, .no], 0, []⟩) (it := eItL enLT (aCons (eVarL 2) aNil)) (b := bTup 2 (bCons (bName 3) (bCons (bName 4) bNil))) (body := cIf (bNot (bTest (eL (aCons (eVarB 4) (aCons (eC (.int 0)) (aCons (eC (.int 6)) aNil))) f_is_number))) cNever cNext)
    (by rcases hx with rfl | rfl <;> simp [runP, runI, runE, argE, argS, List.map_cons, List.map_nil, List.length_cons, List.length_nil, List.cons_append, List.nil_append, List.append_nil, List.replicate, eC, eVar, eVarB, eVarL, eOp, eUn, eL, aNil, aCons, bTest, bNot, bAnd, bOr, eAnd, eOr, eNot, eIf, eChain, eAttr, eIt, eItL, bName, bNil, bCons, bTup, bYes, cNext, cDrop, cRet, cSet, cSetF, cAsg, cAug, cPar, xNil, xVal, xOwn, putXs, S.put, Option.bind_some, Option.map_some, Option.bind_none, Option.map_none, List.getElem?_cons_zero, List.getElem?_cons_succ, List.set_cons_zero, List.set_cons_succ, d2I, gAdd, gSub, gLt, gLe, gGt, gGe, gAugAdd, gEq, gNe, gLen, gList, gTuple, gSumA, gIx, intsOf_map, asSeq, enLT, if_true, if_false, Nat.sub_self, Nat.add_one_sub_one]) ⟨.no, .no, rfl⟩ fun i d s hi ⟨a, b, e⟩ => by
      subst e
      obtain ⟨y, hy, rfl⟩ := enum_ints hi
      have hm := hc y (List.mem_of_getElem? hy)
      refine ⟨_, rfl, _, .inl ((cIf_ff (s1 := ⟨[.slf 0 [], .val (.int p), x, .val (.int i), .val (.int y)], 0, []⟩) ?_).trans rfl), _, _, rfl⟩
      simp [e_is_number, hm.1, hm.2, runP, runI, runE, argE, argS, List.map_cons, List.map_nil, List.length_cons, List.length_nil, List.cons_append, List.nil_append, List.append_nil, List.replicate, eC, eVar, eVarB, eVarL, eOp, eUn, eL, aNil, aCons, bTest, bNot, bAnd, bOr, eAnd, eOr, eNot, eIf, eChain, eAttr, eIt, eItL, bName, bNil, bCons, bTup, bYes, cNext, cDrop, cRet, cSet, cSetF, cAsg, cAug, cPar, xNil, xVal, xOwn, putXs, S.put, Option.bind_some, Option.map_some, Option.bind_none, Option.map_none, List.getElem?_cons_zero, List.getElem?_cons_succ, List.set_cons_zero, List.set_cons_succ, d2I, gAdd, gSub, gLt, gLe, gGt, gGe, gAugAdd, gEq, gNe, gLen, gList, gTuple, gSumA, gIx, intsOf_map, asSeq, enLT, if_true, if_false, Nat.sub_self, Nat.add_one_sub_one]
  rw [cSeq_nx h4]
  rcases hx with rfl | rfl <;> simp [cSeq, cFld, slfAt, runP, runI, runE, argE, argS, List.map_cons, List.map_nil, List.length_cons, List.length_nil, List.cons_append, List.nil_append, List.append_nil, List.replicate, eC, eVar, eVarB, eVarL, eOp, eUn, eL, aNil, aCons, bTest, bNot, bAnd, bOr, eAnd, eOr, eNot, eIf, eChain, eAttr, eIt, eItL, bName, bNil, bCons, bTup, bYes, cNext, cDrop, cRet, cSet, cSetF, cAsg, cAug, cPar, xNil, xVal, xOwn, putXs, S.put, Option.bind_some, Option.map_some, Option.bind_none, Option.map_none, List.getElem?_cons_zero, List.getElem?_cons_succ, List.set_cons_zero, List.set_cons_succ, d2I, gAdd, gSub, gLt, gLe, gGt, gGe, gAugAdd, gEq, gNe, gLen, gList, gTuple, gSumA, gIx, intsOf_map, asSeq, enLT, if_true, if_false, Nat.sub_self, Nat.add_one_sub_one]
theorem e_Space_lst {p : Int} {c : List Int} (hp : 0 ≤ p ∧ p ≤ 12) (hl : 1 ≤ c.length ∧ c.length ≤ 4) (hc : ∀ x ∈ c, 0 ≤ x ∧ x ≤ 6) : f_Space_init [.int p, .lst (c.map .int)] = some [.int p, .tup (c.map .int)] := by
  obtain ⟨s', h1, h2⟩ := e_Space (.inl rfl) hp hl hc
  unfold f_Space_init runI
  rw [show argE 4 [.int p, .lst (c.map .int)] = [.val (.int p), .bor (.lst (c.map .int)), .no, .no] from rfl, h1]
  simp [h2]
/-- a row of whole numbers, as a list or as a tuple -/
def row (t : Bool) (h : List Int) : D := if t then .tup (h.map .int) else .lst (h.map .int)
theorem e_check {p : Int} {c h : List Int} (t : Bool) (v : Valid p c h) : f_check_held [spD p c, row t h] = some .non := by
  unfold f_check_held runP d_check_held
  have hr : f_is_row [row t h] = some (.bl true) := by cases t; exact e_is_row_lst _; exact e_is_row_tup _
  have hL : gLen [row t h] = some (.int h.length) := by cases t <;> simp [row, gLen]
  generalize hx : argS (row t h) = x
  have eB : ∀ (s : S), s.env[1]? = some x → eVarB 1 s = some (row t h, s) := fun s e => by
    unfold eVarB
    rw [e, ← hx]
    cases t <;> rfl
  have eL' : ∀ (s : S), s.env[1]? = some x → eVarL 1 s = some (row t h, s) := fun s e => by
    unfold eVarL
    rw [e, ← hx]
    cases t <;> rfl
  have e0 : argE 4 [spD p c, row t h] = [.val (spD p c), x, .no, .no] := by rw [← hx]; rfl
  rw [e0]
  rw [cSeq_nx (s1 := ⟨[.val (spD p c), x, .no, .no], 0, []⟩) ((cIf_ff (by simp [gIsC, it_Space, spD, runP, runI, runE, argE, argS, List.map_cons, List.map_nil, List.length_cons, List.length_nil, List.cons_append, List.nil_append, List.append_nil, List.replicate, eC, eVar, eVarB, eVarL, eOp, eUn, eL, aNil, aCons, bTest, bNot, bAnd, bOr, eAnd, eOr, eNot, eIf, eChain, eAttr, eIt, eItL, bName, bNil, bCons, bTup, bYes, cNext, cDrop, cRet, cSet, cSetF, cAsg, cAug, cPar, xNil, xVal, xOwn, putXs, S.put, Option.bind_some, Option.map_some, Option.bind_none, Option.map_none, List.getElem?_cons_zero, List.getElem?_cons_succ, List.set_cons_zero, List.set_cons_succ, d2I, gAdd, gSub, gLt, gLe, gGt, gGe, gAugAdd, gEq, gNe, gLen, gList, gTuple, gSumA, gIx, intsOf_map, asSeq, enLT, if_true, if_false, Nat.sub_self, Nat.add_one_sub_one])).trans rfl)]
  rw [cSeq_nx (s1 := ⟨[.val (spD p c), x, .no, .no], 0, []⟩) ((cIf_ff (by
    refine (?_ : bOr _ _ _ = some (false, _))
    have a1 : bNot (bTest (eL (aCons (eVarB 1) aNil) f_is_row)) ⟨[.val (spD p c), x, .no, .no], 0, []⟩ = some (false, ⟨[.val (spD p c), x, .no, .no], 0, []⟩) :=
      bNot_of (b := true) (bTest_of (eL_of (aCons_of (eB _ rfl) rfl) hr))
    unfold bOr
    rw [a1, Option.bind_some]
    simp only [if_false, Bool.false_eq_true]
    refine bTest_of (eOp_of (eL_of (aCons_of (eB _ rfl) rfl) hL) (eL_of (d := .int c.length) (aCons_of rfl rfl) (by simp [gLen])) ?_)
    simp [gNe, eqD_int, v.len])).trans rfl)]
  obtain ⟨s', h4, a, b, rfl⟩ := cFor_inv (P := fun _ s => ∃ a b, s = ⟨[.val (spD p c), x, a, b], 0, []⟩) (items := enumD (h.map .int)) (s := ⟨[.val (spD p c), x, .no, .no], 0, []⟩) (s1 := ⟨[.val (spD p c), x, .no, .no], 0, []⟩) (it := eItL enLT (aCons (eVarL 1) aNil)) (b := bTup 2 (bCons (bName 2) (bCons (bName 3) bNil))) (body := cIf (bNot (bTest (eL (aCons (eVarB 3) (aCons (eC (.int 0)) (aCons (eOp gIx (eAttr 0 1 (eVarB 0)) (eVarB 2)) aNil))) f_is_number))) cNever cNext)
    (by
      unfold eItL
      rw [aCons_of (eL' _ rfl) rfl, Option.bind_some]
      cases t <;> rfl) ⟨.no, .no, rfl⟩ fun i d s hi ⟨a, b, e⟩ => by
      subst e
      obtain ⟨y, hy, rfl⟩ := enum_ints hi
      have hlt := (List.getElem?_eq_some_iff.mp hy).1
      have hi' : (i : Int) ∈ rg c.length := mem_rg.mpr ⟨by omega, by rw [← v.len]; omega⟩
      have ey : cg h (i : Int) = y := by simp [cg, List.getD, hy]
      have m1 := v.lo _ hi'
      have m2 := v.hi _ hi'
      rw [ey] at m1 m2
      refine ⟨_, rfl, _, .inl ((cIf_ff (s1 := ⟨[.val (spD p c), x, .val (.int i), .val (.int y)], 0, []⟩) ?_).trans rfl), _, _, rfl⟩
      refine bNot_of (b := true) (bTest_of (eL_of (d := .bl true) (aCons_of rfl (aCons_of rfl (aCons_of (eOp_of (d := .int (cg c i)) rfl rfl ?_) rfl))) ?_))
      · show L2.atI (c.map D.int) (i : Int) = _
        rw [atI_ints (by omega) (by rw [← v.len]; omega)]
        rfl
      · rw [e_is_number]
        simp [m1, m2]
  rw [cSeq_nx h4]
  have h5 : gList [row t h] = some (.lst (h.map .int)) := by cases t <;> rfl
  rw [cIf_ff (s1 := ⟨[.val (spD p c), x, a, b], 0, []⟩) (bTest_of (eOp_of (d2 := .int p) (d := .bl false) (eL_of (d := .int h.sum) (aCons_of (eL_of (aCons_of (eB _ rfl) rfl) h5) rfl) (by simp [gSumA, intsOf_map])) rfl (by
    have := v.sum
    simp [gGt, d2I, show ¬ p < h.sum by omega])))]
  rfl
theorem mkL0 : mkL [] = some (.lst []) := by
  unfold mkL
  rw [if_pos (show ([] : List D).length ≤ lim from Nat.zero_le _)]
theorem wo_len {r : List Int} {x : Int} (hn : r.Nodup) (h : x ∈ r) : (wo r x).length + 1 = r.length := by
  have := (wo_perm hn h).length_eq
  simpa using this
def ndf (c h : List Int) : Fn := fun i => cg c i - cg h i
/-- what judge_space finds -/
def J (p : Int) (c h : List Int) : Bool × List Int × List Int := jl (ndf c h) (cg h) c.length (p - h.sum) [] (rg c.length)
def objJ (j : Bool × List Int × List Int) : D := if j.1 then .obj 2 [.tup (j.2.1.map .int)] else .obj 1 [.tup (j.2.2.map .int)]
theorem e_Stuck (r : List Int) : f_Stuck_init [.lst (r.map .int)] = some [.tup (r.map .int)] := by
  simp [f_Stuck_init, d_Stuck_init, cFld, slfAt, runP, runI, runE, argE, argS, List.map_cons, List.map_nil, List.length_cons, List.length_nil, List.cons_append, List.nil_append, List.append_nil, List.replicate, eC, eVar, eVarB, eVarL, eOp, eUn, eL, aNil, aCons, bTest, bNot, bAnd, bOr, eAnd, eOr, eNot, eIf, eChain, eAttr, eIt, eItL, bName, bNil, bCons, bTup, bYes, cNext, cDrop, cRet, cSet, cSetF, cAsg, cAug, cPar, xNil, xVal, xOwn, putXs, S.put, Option.bind_some, Option.map_some, Option.bind_none, Option.map_none, List.getElem?_cons_zero, List.getElem?_cons_succ, List.set_cons_zero, List.set_cons_succ, d2I, gAdd, gSub, gLt, gLe, gGt, gGe, gAugAdd, gEq, gNe, gLen, gList, gTuple, gSumA, gIx, intsOf_map, asSeq, enLT, if_true, if_false, Nat.sub_self, Nat.add_one_sub_one]
theorem e_CanEnd (r : List Int) : f_CanEnd_init [.lst (r.map .int)] = some [.tup (r.map .int)] := by
  simp [f_CanEnd_init, d_CanEnd_init, cFld, slfAt, runP, runI, runE, argE, argS, List.map_cons, List.map_nil, List.length_cons, List.length_nil, List.cons_append, List.nil_append, List.append_nil, List.replicate, eC, eVar, eVarB, eVarL, eOp, eUn, eL, aNil, aCons, bTest, bNot, bAnd, bOr, eAnd, eOr, eNot, eIf, eChain, eAttr, eIt, eItL, bName, bNil, bCons, bTup, bYes, cNext, cDrop, cRet, cSet, cSetF, cAsg, cAug, cPar, xNil, xVal, xOwn, putXs, S.put, Option.bind_some, Option.map_some, Option.bind_none, Option.map_none, List.getElem?_cons_zero, List.getElem?_cons_succ, List.set_cons_zero, List.set_cons_succ, d2I, gAdd, gSub, gLt, gLe, gGt, gGe, gAugAdd, gEq, gNe, gLen, gList, gTuple, gSumA, gIx, intsOf_map, asSeq, enLT, if_true, if_false, Nat.sub_self, Nat.add_one_sub_one]
theorem e_judge {p : Int} {c h : List Int} (t : Bool) (v : Valid p c h) (hl : c.length ≤ 4) : f_judge_space [spD p c, row t h] = some (objJ (J p c h)) := by
  have hck := e_check t v
  have hL : gLen [row t h] = some (.int c.length) := by rw [← v.len]; cases t <;> simp [row, gLen]
  have h5 : gList [row t h] = some (.lst (h.map .int)) := by cases t <;> rfl
  have hix : ∀ i ∈ rg c.length, gIx (row t h) (.int i) = some (.int (cg h i)) := fun i hi => by
    rw [mem_rg] at hi
    cases t <;> exact atI_ints hi.1 (by rw [v.len]; exact hi.2)
  have cix : ∀ i ∈ rg c.length, gIx (.tup (c.map .int)) (.int i) = some (.int (cg c i)) := fun i hi => by
    rw [mem_rg] at hi
    exact atI_ints hi.1 hi.2
  unfold f_judge_space runP d_judge_space
  generalize hx : argS (row t h) = x
  have eB : ∀ (s : S), s.env[1]? = some x → eVarB 1 s = some (row t h, s) := fun s e => by
    unfold eVarB
    rw [e, ← hx]
    cases t <;> rfl
  have e0 : argE 7 [spD p c, row t h] = [.val (spD p c), x, .no, .no, .no, .no, .no] := by rw [← hx]; rfl
  rw [e0]
  clear e0 hx
  rw [cSeq_nx (s1 := ⟨[.val (spD p c), x, .no, .no, .no, .no, .no], 0, []⟩) (cDrop_of (d := .non) (eL_of (aCons_of rfl (aCons_of (eB _ rfl) rfl)) hck))]
  let st := fun (f : Int) (o r : List Int) (y : Sl) => (⟨[.val (spD p c), x, .val (.int f), .own (.lst (o.map .int)), .own (.lst (r.map .int)), y, .no], 0, []⟩ : S)
  rw [cSeq_nx (s1 := ⟨[.val (spD p c), x, .val (.int (p - h.sum)), .own (.lst []), .no, .no, .no], 0, []⟩) (by
    unfold cPar xVal
    rw [eOp_of (g := gSub) (d1 := .int p) (d2 := .int h.sum) (d := .int (p - h.sum)) rfl (eL_of (aCons_of (eL_of (aCons_of (eB _ rfl) rfl) h5) rfl) (by simp [gSumA, intsOf_map])) rfl]
    unfold xOwn
    rw [Option.bind_some, eL_of (g := mkL) rfl mkL0]
    rfl)]
  rw [cSeq_nx (s1 := st (p - h.sum) [] (rg c.length) .no) (cSetF_of (s := ⟨[.val (spD p c), x, .val (.int (p - h.sum)), .own (.lst []), .no, .no, .no], 0, []⟩) (s1 := ⟨[.val (spD p c), x, .val (.int (p - h.sum)), .own (.lst []), .no, .no, .no], 0, []⟩) (eUn_of (g := gLR1) (d := .lst ((rg c.length).map .int)) (eL_of (aCons_of (eB _ rfl) rfl) hL) (by
    unfold gLR1
    simp only
    rw [if_pos (by omega)]
    rw [Int.toNat_natCast, rangeD0]
    rfl)))]
  obtain ⟨o, h1, h2⟩ := cWhile_inv (N := fuel) (n := c.length) (s := st (p - h.sum) [] (rg c.length) .no) (c := bTest (eOp gNe (eVarB 4) (eL aNil mkL))) (body := (cSeq (cSetF 5 (eComp (eIt asSeq (eVarB 4)) [6] (bName 6) (bTest (eOp gLe (eOp gSub (eOp gIx (eAttr 0 1 (eVarB 0)) (eVarB 6)) (eOp gIx (eVarB 1) (eVarB 6))) (eVarB 2))) (eVar 6))) (cSeq (cIf (bTest (eOp gEq (eVarB 5) (eL (aNil) mkL))) (cRet (eL (aCons (eVarB 4) (aNil)) (fun ds => (f_Stuck_init ds).map (.obj 1)))) (cNext)) (cSeq (cApp 3 (eOp gIx (eVarB 5) (eC (.int 0)))) (cSeq (cAug 2 gAugAdd (eOp gIx (eVarB 1) (eOp gIx (eVarB 5) (eC (.int 0))))) (cSetF 4 (eComp (eIt asSeq (eVarB 4)) [6] (bName 6) (bTest (eOp gNe (eVarB 6) (eOp gIx (eVarB 5) (eC (.int 0))))) (eVar 6))))))))
    (P := fun m s => ∃ f o r y, s = st f o r y ∧ r.length = m ∧ r.Nodup ∧ (∀ i ∈ r, i ∈ rg c.length) ∧ o.length + r.length = c.length ∧ jl (ndf c h) (cg h) m f o r = J p c h)
    (Post := fun o => if (J p c h).1 = true then ∃ f r y, o = .nx (st f (J p c h).2.1 r y) else ∃ s, o = .rt (.obj 1 [.tup ((J p c h).2.2.map .int)]) s)
    (by unfold fuel; omega) ⟨_, _, _, _, rfl, rg_len _, rg_nodup _, fun i hi => hi, by simp [rg_len], rfl⟩ (by
    rintro m s ⟨f, o, r, y, rfl, rfl, hn, hsub, hlen, hJ⟩
    have hr4 : r.length ≤ lim := by unfold lim; omega
    refine ⟨decide (r ≠ []), st f o r y, ?_, ?_⟩
    · refine bTest_of (eOp_of (d1 := .lst (r.map .int)) (d2 := .lst []) rfl (eL_of rfl mkL0) ?_)
      unfold gNe
      rw [eqD_nil]
      simp
    · by_cases er : r = []
      · rw [if_neg (by simp [er])]
        subst er
        rw [← hJ]
        exact ⟨f, [], y, rfl⟩
      · rw [if_pos (by simp [er])]
        have hnear : eComp (eIt asSeq (eVarB 4)) [6] (bName 6) (bTest (eOp gLe (eOp gSub (eOp gIx (eAttr 0 1 (eVarB 0)) (eVarB 6)) (eOp gIx (eVarB 1) (eVarB 6))) (eVarB 2))) (eVar 6) (st f o r y) = some (.lst ((r.filter fun i => decide (ndf c h i ≤ f)).map .int), st f o r y) := by
          refine eComp_ints (s1 := st f o r y) (P := fun i => decide (ndf c h i ≤ f)) (e := .int) rfl hr4 fun i hi => ⟨_, rfl, _, bTest_of (eOp_of (d1 := .int (ndf c h i)) (d2 := .int f) (eOp_of (eOp_of rfl rfl (cix i (hsub i hi))) (eOp_of (eB _ rfl) rfl (hix i (hsub i hi))) rfl) rfl rfl), ?_⟩
          by_cases hp : ndf c h i ≤ f
          · rw [if_pos (by simpa using hp)]
            exact ⟨_, rfl, rfl⟩
          · rw [if_neg (by simpa using hp)]
            rfl
        rw [cSeq_nx (s1 := st f o r (.own (.lst ((r.filter fun i => decide (ndf c h i ≤ f)).map .int)))) (cSetF_of hnear)]
        obtain ⟨k, hk⟩ : ∃ k, r.length = k + 1 := ⟨r.length - 1, by have := List.length_pos_iff.mpr er; omega⟩
        rw [hk, jl, if_neg er] at hJ
        cases en : r.filter fun i => decide (ndf c h i ≤ f) with
        | nil =>
          rw [en] at hJ
          simp only at hJ
          rw [List.map_nil]
          rw [cSeq_rt (s1 := st f o r (.own (.lst []))) (d := .obj 1 [.tup (r.map .int)]) ((cIf_tt (s1 := st f o r (.own (.lst []))) (bTest_of (eOp_of (d1 := .lst []) (d2 := .lst []) rfl (eL_of rfl mkL0) rfl))).trans (cRet_of (eL_of (g := fun ds => (f_Stuck_init ds).map (.obj 1)) (ds := [.lst (r.map .int)]) rfl (by
            show (f_Stuck_init _).map _ = _
            rw [e_Stuck]
            rfl))))]
          refine ⟨_, rfl, ?_⟩
          simp only
          rw [← hJ]
          exact ⟨_, rfl⟩
        | cons z zs =>
          rw [en] at hJ
          simp only at hJ
          obtain ⟨hz, hzf⟩ := near_mem en
          have hzr := hsub z hz
          have e7 : eOp gIx (eVarB 5) (eC (.int 0)) = eOp gIx (eVarB 5) (eC (.int 0)) := rfl
          rw [cSeq_nx (s1 := st f o r (.own (.lst ((z :: zs).map .int)))) ((cIf_ff (s1 := st f o r (.own (.lst ((z :: zs).map .int)))) (bTest_of (eOp_of (d1 := .lst ((z :: zs).map .int)) (d2 := .lst []) rfl (eL_of rfl mkL0) (by
            unfold gEq
            rw [eqD_nil]
            rfl)))).trans rfl)]
          rw [cSeq_nx (s1 := st f (o ++ [z]) r (.own (.lst ((z :: zs).map .int)))) (by
            rw [cApp_of (s1 := st f o r (.own (.lst ((z :: zs).map .int)))) (ys := o.map .int) (xs := o.map .int) (d := .int z) rfl (eOp_of rfl rfl (gIx0 _ _)) rfl (by rw [List.length_map]; unfold lim; omega)]
            rw [show o.map D.int ++ [.int z] = (o ++ [z]).map D.int by simp]
            rfl)]
          rw [cSeq_nx (s1 := st (f + cg h z) (o ++ [z]) r (.own (.lst ((z :: zs).map .int)))) (by
            show ((eOp gIx (eVarB 1) (eOp gIx (eVarB 5) (eC (.int 0)))) (st f (o ++ [z]) r (.own (.lst ((z :: zs).map .int))))).bind _ = _
            rw [eOp_of (eB _ rfl) (eOp_of (d := .int z) rfl rfl (gIx0 _ _)) (hix z hzr)]
            rfl)]
          have hrest : eComp (eIt asSeq (eVarB 4)) [6] (bName 6) (bTest (eOp gNe (eVarB 6) (eOp gIx (eVarB 5) (eC (.int 0))))) (eVar 6) (st (f + cg h z) (o ++ [z]) r (.own (.lst ((z :: zs).map .int)))) = some (.lst ((wo r z).map .int), st (f + cg h z) (o ++ [z]) r (.own (.lst ((z :: zs).map .int)))) := by
            refine eComp_ints (s1 := st (f + cg h z) (o ++ [z]) r (.own (.lst ((z :: zs).map .int)))) (P := fun i => decide (i ≠ z)) (e := .int) rfl hr4 fun i hi => ⟨_, rfl, _, bTest_of (eOp_of (d1 := .int i) (d2 := .int z) rfl (eOp_of (d2 := .int 0) rfl rfl (gIx0 _ _)) (by
              unfold gNe
              rw [eqD_int]
              simp)), ?_⟩
            by_cases hp : i ≠ z
            · rw [if_pos (by simpa using hp)]
              exact ⟨_, rfl, rfl⟩
            · rw [if_neg (by simpa using hp)]
              rfl
          rw [cSetF_of hrest]
          have hw := wo_len hn hz
          exact ⟨_, rfl, (wo r z).length, by omega, f + cg h z, o ++ [z], wo r z, _, rfl, rfl, wo_nodup hn, fun i hi => hsub i (mem_wo.mp hi).1, by rw [List.length_append, List.length_singleton]; omega, by rw [show (wo r z).length = k by omega]; exact hJ⟩)
  rw [cSeq]
  rw [h1, Option.bind_some]
  unfold objJ
  by_cases hj : (J p c h).1 = true
  · rw [if_pos hj] at h2 ⊢
    obtain ⟨f, r, y, rfl⟩ := h2
    simp only
    rw [cRet_of (eL_of (g := fun ds => (f_CanEnd_init ds).map (.obj 2)) (d := .obj 2 [.tup ((J p c h).2.1.map .int)]) (ds := [.lst ((J p c h).2.1.map .int)]) rfl (by
      show (f_CanEnd_init _).map _ = _
      rw [e_CanEnd]
      rfl))]
  · rw [if_neg hj] at h2 ⊢
    obtain ⟨s, rfl⟩ := h2
    rfl

end K77


set_option Elab.async false
set_option linter.all false
set_option maxRecDepth 100000
set_option maxHeartbeats 4000000
namespace K77
open PySem DL
/-! ### judging -/
theorem J_safe {p : Int} {c h : List Int} (v : Valid p c h) : (J p c h).1 = true ↔ SafeSt p c h := jl_safe (by rw [rg_len]; exact Nat.le_refl _) v.lo
theorem tru_J (j : Bool × List Int × List Int) : truD tb_CanEnd_Stuck (objJ j) = some j.1 := by
  obtain ⟨b, o, r⟩ := j
  cases b <;> rfl
theorem row_lst (h : List Int) : D.lst (h.map .int) = row false h := rfl
theorem row_tup (h : List Int) : D.tup (h.map .int) = row true h := rfl
theorem inc_mapIdx {h : List Int} {i : Int} (h0 : 0 ≤ i) : h.mapIdx (fun j y => if (j : Int) = i then y + 1 else y) = inc h i := by
  apply List.ext_getElem
  · simp [inc]
  · intro j h1 h2
    have hj : j < h.length := by simpa using h1
    simp only [List.getElem_mapIdx, inc]
    rw [List.getElem_set]
    by_cases e : (j : Int) = i
    · rw [if_pos e, if_pos (by omega)]
      subst e
      simp [cg, List.getD, hj]
    · rw [if_neg e, if_neg (by omega)]
theorem ix_tup {c : List Int} {i : Int} (hi : i ∈ rg c.length) : gIx (.tup (c.map .int)) (.int i) = some (.int (cg c i)) := by
  rw [mem_rg] at hi
  exact atI_ints hi.1 hi.2
theorem ix_lst {c : List Int} {i : Int} (hi : i ∈ rg c.length) : gIx (.lst (c.map .int)) (.int i) = some (.int (cg c i)) := by
  rw [mem_rg] at hi
  exact atI_ints hi.1 hi.2
theorem sumL (h : List Int) : gSumA [.lst (h.map .int)] = some (.int h.sum) := by simp [gSumA, intsOf_map]
theorem sumT (h : List Int) : gSumA [.tup (h.map .int)] = some (.int h.sum) := by simp [gSumA, intsOf_map]
theorem get_cg {h : List Int} {i : Nat} {y : Int} (hy : h[i]? = some y) : cg h (i : Int) = y := by simp [cg, List.getD, hy]
theorem rg_get {n i : Nat} (h : i < n) : (rg n)[i]? = some (i : Int) := by simp [rg, h]
theorem rg_succ (n : Nat) : rg (n + 1) = rg n ++ [(n : Int)] := by simp [rg, List.range_succ]
/-! ### good_steps -/
def goodB (p : Int) (c h : List Int) (i : Int) : Bool := decide (cg h i < cg c i) && decide (h.sum < p) && (J p c (inc h i)).1
theorem e_good {p : Int} {c h : List Int} (v : Valid p c h) (hl : c.length ≤ 4) : f_good_steps [spD p c, .lst (h.map .int)] = some (.lst (((rg c.length).filter (goodB p c h)).map .int)) := by
  have hck := e_check false v
  unfold f_good_steps runP d_good_steps
  rw [show argE 8 [spD p c, .lst (h.map .int)] = [.val (spD p c), .bor (.lst (h.map .int)), .no, .no, .no, .no, .no, .no] from rfl]
  let st := fun (fd : List Int) (a b y : Sl) => (⟨[.val (spD p c), .bor (.lst (h.map .int)), .own (.lst (fd.map .int)), a, b, y, .no, .no], 0, []⟩ : S)
  rw [cSeq_nx (s1 := ⟨[.val (spD p c), .bor (.lst (h.map .int)), .no, .no, .no, .no, .no, .no], 0, []⟩) (cDrop_of (d := .non) (eL_of (aCons_of rfl (aCons_of rfl rfl)) hck))]
  rw [cSeq_nx (s1 := st [] .no .no .no) (cSetF_of (s := ⟨[.val (spD p c), .bor (.lst (h.map .int)), .no, .no, .no, .no, .no, .no], 0, []⟩) (s1 := ⟨[.val (spD p c), .bor (.lst (h.map .int)), .no, .no, .no, .no, .no, .no], 0, []⟩) (eL_of (g := mkL) rfl mkL0))]
  obtain ⟨s', h4, a, b, y, rfl⟩ := cFor_inv (P := fun n s => ∃ a b y, s = st ((rg n).filter (goodB p c h)) a b y) (items := enumD (h.map .int)) (s := st [] .no .no .no) (s1 := st [] .no .no .no) (it := eItL enLT (aCons (eVarL 1) aNil)) (b := bTup 2 (bCons (bName 3) (bCons (bName 4) bNil)))
    (body := cIf (bAnd (bTest (eOp gLt (eVarB 4) (eOp gIx (eAttr 0 1 (eVarB 0)) (eVarB 3)))) (bTest (eOp gLt (eL (aCons (eL (aCons (eVarB 1) (aNil)) gList) (aNil)) gSumA) (eAttr 0 0 (eVarB 0))))) (cSeq (cSetF 5 (eComp (eItL enLT (aCons (eVarB 1) (aNil))) [6, 7] (bTup 2 (bCons (bName 6) (bCons (bName 7) (bNil)))) (bYes) (eIf (bTest (eOp gEq (eVarB 6) (eVarB 3))) (eOp gAdd (eVarB 7) (eC (.int 1))) (eVar 7)))) (cIf (bObjs tb_CanEnd_Stuck (eL (aCons (eVarB 0) (aCons (eVarB 5) (aNil))) f_judge_space)) (cApp 2 (eVar 3)) (cNext))) (cNext))
    rfl ⟨.no, .no, .no, rfl⟩ fun i d s hi ⟨a, b, y, e⟩ => by
      subst e
      obtain ⟨z, hz, rfl⟩ := enum_ints hi
      have hlt := (List.getElem?_eq_some_iff.mp hz).1
      have hi' : (i : Int) ∈ rg c.length := mem_rg.mpr ⟨by omega, by rw [← v.len]; omega⟩
      have ez := get_cg hz
      have hlen : ((rg i).filter (goodB p c h)).length < lim := by
        have := List.length_filter_le (goodB p c h) (rg i)
        rw [rg_len] at this
        have := v.len
        unfold lim
        omega
      let st1 := st ((rg i).filter (goodB p c h)) (.val (.int i)) (.val (.int z)) y
      have hc : bAnd (bTest (eOp gLt (eVarB 4) (eOp gIx (eAttr 0 1 (eVarB 0)) (eVarB 3)))) (bTest (eOp gLt (eL (aCons (eL (aCons (eVarB 1) (aNil)) gList) (aNil)) gSumA) (eAttr 0 0 (eVarB 0)))) st1 = some (decide (cg h i < cg c i) && decide (h.sum < p), st1) := by
        have a1 : bTest (eOp gLt (eVarB 4) (eOp gIx (eAttr 0 1 (eVarB 0)) (eVarB 3))) st1 = some (decide (cg h i < cg c i), st1) := by
          rw [ez]
          exact bTest_of (eOp_of (d1 := .int z) (d2 := .int (cg c i)) rfl (eOp_of rfl rfl (ix_tup hi')) rfl)
        have a2 : bTest (eOp gLt (eL (aCons (eL (aCons (eVarB 1) (aNil)) gList) (aNil)) gSumA) (eAttr 0 0 (eVarB 0))) st1 = some (decide (h.sum < p), st1) :=
          bTest_of (eOp_of (d1 := .int h.sum) (d2 := .int p) (eL_of (aCons_of (eL_of (d := .lst (h.map .int)) (aCons_of rfl rfl) rfl) rfl) (sumL h)) rfl rfl)
        unfold bAnd
        rw [a1, Option.bind_some]
        by_cases q : cg h i < cg c i
        · simp only [q, decide_true, if_true, Bool.true_and]
          exact a2
        · simp only [q, decide_false, if_false, Bool.false_and, Bool.false_eq_true]
      rw [rg_succ, List.filter_append]
      by_cases q : (decide (cg h i < cg c i) && decide (h.sum < p)) = true
      · rw [q] at hc
        have q' := q
        rw [Bool.and_eq_true, decide_eq_true_eq, decide_eq_true_eq] at q'
        have vi := v.inc hi' q'.1 q'.2
        let st2 := st ((rg i).filter (goodB p c h)) (.val (.int i)) (.val (.int z)) (.own (.lst ((inc h i).map .int)))
        have hlate : eComp (eItL enLT (aCons (eVarB 1) (aNil))) [6, 7] (bTup 2 (bCons (bName 6) (bCons (bName 7) (bNil)))) (bYes) (eIf (bTest (eOp gEq (eVarB 6) (eVarB 3))) (eOp gAdd (eVarB 7) (eC (.int 1))) (eVar 7)) st1 = some (.lst ((inc h i).map .int), st1) := by
          rw [← inc_mapIdx (by omega)]
          refine eComp_enum (s1 := st1) (e := fun j y => if (j : Int) = (i : Int) then y + 1 else y) rfl (by have := v.len; unfold lim; omega) fun j w hw => ⟨_, rfl, _, rfl, ⟨[.val (spD p c), .bor (.lst (h.map .int)), .own (.lst (((rg i).filter (goodB p c h)).map .int)), .val (.int i), .val (.int z), y, .val (.int j), .val (.int w)], 0, []⟩, ?_, rfl⟩
          by_cases e : (j : Int) = (i : Int)
          · unfold eIf
            rw [bTest_of (b := true) (eOp_of (d1 := .int j) (d2 := .int i) rfl rfl (by unfold gEq; rw [eqD_int]; simp [e])), Option.bind_some]
            simp only [if_true, e]
            rfl
          · unfold eIf
            rw [bTest_of (b := false) (eOp_of (d1 := .int j) (d2 := .int i) rfl rfl (by unfold gEq; rw [eqD_int]; simp [e])), Option.bind_some]
            simp only [if_false, Bool.false_eq_true, if_neg e]
            rfl
        have hj : bObjs tb_CanEnd_Stuck (eL (aCons (eVarB 0) (aCons (eVarB 5) (aNil))) f_judge_space) st2 = some ((J p c (inc h i)).1, st2) := bObjs_of (eL_of (aCons_of rfl (aCons_of rfl rfl)) (e_judge false vi hl)) (tru_J _)
        by_cases g : (J p c (inc h i)).1 = true
        · rw [g] at hj
          have eg : [(i : Int)].filter (goodB p c h) = [(i : Int)] := List.filter_cons_of_pos (by unfold goodB; rw [q, g]; rfl)
          rw [eg]
          refine ⟨st1, rfl, st ((rg i).filter (goodB p c h) ++ [(i : Int)]) (.val (.int i)) (.val (.int z)) (.own (.lst ((inc h i).map .int))), .inl ?_, _, _, _, rfl⟩
          rw [cIf_tt hc, cSeq_nx (s1 := st2) (cSetF_of (s := st1) (s1 := st1) hlate), cIf_tt hj, cApp_of (s1 := st2) (ys := ((rg i).filter (goodB p c h)).map .int) (xs := ((rg i).filter (goodB p c h)).map .int) (d := .int i) rfl rfl rfl (by rw [List.length_map]; exact hlen)]
          show some (Out.nx ⟨[.val (spD p c), .bor (.lst (h.map .int)), .own (.lst (((rg i).filter (goodB p c h)).map .int ++ [.int i])), _, _, _, _, _], 0, []⟩) = _
          rw [show ((rg i).filter (goodB p c h)).map D.int ++ [.int i] = ((rg i).filter (goodB p c h) ++ [(i : Int)]).map D.int by simp]
        · have g' : (J p c (inc h i)).1 = false := by simpa using g
          rw [g'] at hj
          have eg : [(i : Int)].filter (goodB p c h) = [] := List.filter_cons_of_neg (by unfold goodB; rw [q, g']; simp)
          rw [eg, List.append_nil]
          refine ⟨st1, rfl, st2, .inl ?_, _, _, _, rfl⟩
          rw [cIf_tt hc, cSeq_nx (s1 := st2) (cSetF_of (s := st1) (s1 := st1) hlate), cIf_ff hj]
          rfl
      · have q' : (decide (cg h i < cg c i) && decide (h.sum < p)) = false := by simpa using q
        rw [q'] at hc
        have eg : [(i : Int)].filter (goodB p c h) = [] := List.filter_cons_of_neg (by unfold goodB; rw [q']; simp)
        rw [eg, List.append_nil]
        refine ⟨st1, rfl, st1, .inl ?_, _, _, _, rfl⟩
        rw [cIf_ff hc]
        rfl
  rw [cSeq_nx h4, enumD_len, List.length_map, v.len]
  rfl
/-! ### enough_places -/
theorem e_enough {c : List Int} (hl : 1 ≤ c.length ∧ c.length ≤ 4) (hc : ∀ x ∈ c, 0 ≤ x ∧ x ≤ 6) : f_enough_places [.lst (c.map .int)] = some (.int (enough c)) := by
  unfold f_enough_places runP d_enough_places
  rw [show argE 3 [.lst (c.map .int)] = [.bor (.lst (c.map .int)), .no, .no] from rfl]
  let st : S := ⟨[.bor (.lst (c.map .int)), .val (.tup (c.map .int)), .no], 0, []⟩
  have hlim : c.length ≤ lim := by unfold lim; omega
  rw [cSeq_nx (s1 := st) (cSet_of (s := ⟨[.bor (.lst (c.map .int)), .no, .no], 0, []⟩) (s1 := ⟨[.bor (.lst (c.map .int)), .no, .no], 0, []⟩) (d := .tup (c.map .int)) (eUn_of (d1 := spD 12 c) (eL_of (ds := [.int 12, .lst (c.map .int)]) rfl (by
    show (f_Space_init _).map _ = _
    rw [e_Space_lst (by omega) hl hc]
    rfl)) rfl))]
  have h1 : eComp (eIt asSeq (eVarB 1)) [2] (bName 2) (bTest (eOp gGt (eVarB 2) (eC (.int 0)))) (eOp gSub (eVarB 2) (eC (.int 1))) st = some (.lst ((c.filter fun x => decide (0 < x)).map fun x => .int (x - 1)), st) := by
    refine eComp_ints (s1 := st) (P := fun x => decide (0 < x)) (e := fun x => .int (x - 1)) rfl hlim fun x hx => ⟨_, rfl, _, rfl, ?_⟩
    by_cases q : 0 < x
    · rw [if_pos (by simpa using q)]
      exact ⟨_, rfl, rfl⟩
    · rw [if_neg (by simpa using q)]
      rfl
  have h2 : eComp (eIt asSeq (eVarB 1)) [2] (bName 2) (bYes) (eOp gGt (eVarB 2) (eC (.int 0))) st = some (.lst (c.map fun x => .bl (decide (0 < x))), st) := by
    have := eComp_ints (it := eIt asSeq (eVarB 1)) (vs := [2]) (b := bName 2) (u := bYes) (f := eOp gGt (eVarB 2) (eC (.int 0))) (s := st) (s1 := st) (P := fun x => true) (e := fun x => .bl (decide (0 < x))) rfl hlim fun x hx => ⟨_, rfl, _, rfl, by rw [if_pos rfl]; exact ⟨_, rfl, rfl⟩⟩
    rw [this, List.filter_eq_self.mpr fun _ _ => rfl]
    rfl
  have h3 : eL (aCons (eComp (eIt asSeq (eVarB 1)) [2] (bName 2) (bTest (eOp gGt (eVarB 2) (eC (.int 0)))) (eOp gSub (eVarB 2) (eC (.int 1)))) (aNil)) gSumA st = some (.int ((c.filter fun x => decide (0 < x)).map fun x => x - 1).sum, st) := by
    refine eL_of (aCons_of h1 rfl) ?_
    rw [show (fun x : Int => D.int (x - 1)) = D.int ∘ fun x => x - 1 from rfl, ← List.map_map]
    exact sumL _
  have h4 : eIf (bTest (eL (aCons (eComp (eIt asSeq (eVarB 1)) [2] (bName 2) (bYes) (eOp gGt (eVarB 2) (eC (.int 0)))) (aNil)) gAny)) (eC (.int 1)) (eC (.int 0)) st = some (.int (if (c.any fun x => decide (0 < x)) = true then 1 else 0), st) := by
    have a : bTest (eL (aCons (eComp (eIt asSeq (eVarB 1)) [2] (bName 2) (bYes) (eOp gGt (eVarB 2) (eC (.int 0)))) (aNil)) gAny) st = some ((c.any fun x => decide (0 < x)), st) := by
      refine bTest_of (eL_of (aCons_of h2 rfl) ?_)
      rw [show (fun x : Int => D.bl (decide (0 < x))) = D.bl ∘ fun x => decide (0 < x) from rfl, ← List.map_map]
      show (blsOf _).map _ = _
      rw [blsOf_map]
      simp [List.any_map]
    unfold eIf
    rw [a, Option.bind_some]
    by_cases q : (c.any fun x => decide (0 < x)) = true
    · simp only [q, if_true]; rfl
    · simp only [q, if_false, Bool.false_eq_true]; rfl
  rw [cRet_of (eOp_of h3 h4 rfl)]
  rfl
end K77


set_option Elab.async false
set_option linter.all false
set_option maxRecDepth 100000
set_option maxHeartbeats 4000000
namespace K77
open PySem DL
/-! ### ways -/
def run (n : Nat) (w : List Int) : List Int := w.foldl inc (List.replicate n 0)
theorem run_snoc (n : Nat) (w : List Int) (i : Int) : run n (w ++ [i]) = inc (run n w) i := by simp [run]
structure PathOk (p : Int) (c w : List Int) : Prop where
  mem : ∀ i ∈ w, i ∈ rg c.length
  val : ∀ m, m ≤ w.length → Valid p c (run c.length (w.take m))
  safe : ∀ m, m < w.length → SafeSt p c (run c.length (w.take m))
theorem PathOk.snoc {p : Int} {c w : List Int} {i : Int} (h : PathOk p c w) (hs : SafeSt p c (run c.length w)) (hi : i ∈ rg c.length) (hv : Valid p c (inc (run c.length w) i)) : PathOk p c (w ++ [i]) := by
  refine ⟨fun j hj => ?_, fun m hm => ?_, fun m hm => ?_⟩
  · rcases List.mem_append.mp hj with z | z
    · exact h.mem j z
    · have : j = i := by simpa using z
      rw [this]; exact hi
  · by_cases e : m ≤ w.length
    · rw [List.take_append_of_le_length e]
      exact h.val m e
    · rw [List.take_of_length_le (by simp at hm ⊢; omega), run_snoc]
      exact hv
  · have e : m ≤ w.length := by simp at hm; omega
    rw [List.take_append_of_le_length e]
    by_cases e2 : m < w.length
    · exact h.safe m e2
    · rw [List.take_of_length_le (by omega)]
      exact hs
/-! ### how many states there are -/
def code : List Int → Int
  | [] => 0
  | x :: r => x + 5 * code r
theorem code_inj : ∀ {a b : List Int}, a.length = b.length → (∀ x ∈ a, 0 ≤ x ∧ x ≤ 4) → (∀ x ∈ b, 0 ≤ x ∧ x ≤ 4) → code a = code b → a = b
  | [], [], _, _, _, _ => rfl
  | [], _ :: _, h, _, _, _ => by simp at h
  | _ :: _, [], h, _, _, _ => by simp at h
  | x :: a, y :: b, h, ha, hb, e => by
    have h1 := ha x List.mem_cons_self
    have h2 := hb y List.mem_cons_self
    simp only [code] at e
    have e1 : x = y := by omega
    have e2 : code a = code b := by omega
    rw [e1, code_inj (by simpa using h) (fun x hx => ha x (List.mem_cons_of_mem _ hx)) (fun x hx => hb x (List.mem_cons_of_mem _ hx)) e2]
theorem code_lt : ∀ {a : List Int}, (∀ x ∈ a, 0 ≤ x ∧ x ≤ 4) → 0 ≤ code a ∧ code a < 5 ^ a.length
  | [], _ => by simp [code]
  | x :: a, ha => by
    have h1 := ha x List.mem_cons_self
    have h2 := code_lt fun x hx => ha x (List.mem_cons_of_mem _ hx)
    simp only [code, List.length_cons]
    rw [Int.pow_succ]
    omega
theorem len_sm (r : List Int) : sm (fun _ => 1) r = r.length := by
  induction r with
  | nil => rfl
  | cons x r ih => rw [sm_cons, ih, List.length_cons]; omega
theorem valid_small {p : Int} {c h : List Int} (v : Valid p c h) (hc : ∀ x ∈ c, 0 ≤ x ∧ x ≤ 4) : ∀ x ∈ h, 0 ≤ x ∧ x ≤ 4 := fun x hx => by
  obtain ⟨j, hj, e⟩ := List.getElem_of_mem hx
  have hj' : (j : Int) ∈ rg c.length := mem_rg.mpr ⟨by omega, by rw [← v.len]; omega⟩
  have e2 : cg h (j : Int) = x := by simp [cg, List.getD, hj, e]
  have a := v.lo _ hj'
  have b := v.hi _ hj'
  have d := hc _ (cg_mem hj')
  omega
theorem few {p : Int} {c : List Int} {ks : List (List Int)} (hl : c.length ≤ 4) (hc : ∀ x ∈ c, 0 ≤ x ∧ x ≤ 4) (hn : ks.Nodup) (hv : ∀ k ∈ ks, Valid p c k) : ks.length ≤ 625 := by
  have n1 : (ks.map code).Nodup := by
    unfold List.Nodup at hn ⊢
    rw [List.pairwise_map]
    refine hn.imp_of_mem ?_
    intro a b ha hb hab e
    exact hab (code_inj (by rw [(hv a ha).len, (hv b hb).len]) (valid_small (hv a ha) hc) (valid_small (hv b hb) hc) e)
  have := sm_subset (f := fun _ => 1) n1 (rg_nodup 625) (fun i hi => by
    obtain ⟨k, hk, rfl⟩ := List.mem_map.mp hi
    have q := code_lt (valid_small (hv k hk) hc)
    rw [(hv k hk).len] at q
    have : (5 : Int) ^ c.length ≤ 625 := by
      have : c.length = 0 ∨ c.length = 1 ∨ c.length = 2 ∨ c.length = 3 ∨ c.length = 4 := by omega
      rcases this with e | e | e | e | e <;> rw [e] <;> decide
    exact mem_rg.mpr ⟨q.1, by omega⟩) (fun _ _ => by decide)
  rw [len_sm, len_sm, List.length_map, rg_len] at this
  omega
/-! ### the walk through the states -/
abbrev Cm := List (List Int × List Int)
def kys (C : Cm) : List (List Int) := C.map (·.1)
structure BI (p : Int) (c : List Int) (C : Cm) : Prop where
  nd : (kys C).Nodup
  hd : (kys C)[0]? = some (List.replicate c.length 0)
  ok : ∀ q ∈ C, Valid p c q.1 ∧ PathOk p c q.2 ∧ run c.length q.2 = q.1
/-- the state is safe, and all next ones at places below m are known -/
def Dn (p : Int) (c : List Int) (C : Cm) (k : List Int) (m : Nat) : Prop := SafeSt p c k ∧ ∀ i ∈ rg c.length, i < m → cg k i < cg c i → k.sum < p → inc k i ∈ kys C
theorem BI.few {p : Int} {c : List Int} {C : Cm} (b : BI p c C) (hl : c.length ≤ 4) (hc : ∀ x ∈ c, 0 ≤ x ∧ x ≤ 4) : C.length ≤ 625 := by
  have := K77.few hl hc b.nd fun k hk => by
    obtain ⟨q, hq, rfl⟩ := List.mem_map.mp hk
    exact (b.ok q hq).1
  unfold kys at this
  simpa using this
theorem Dn.mono {p : Int} {c : List Int} {C C' : Cm} {k : List Int} {m : Nat} (h : Dn p c C k m) (e : ∀ k ∈ kys C, k ∈ kys C') : Dn p c C' k m := ⟨h.1, fun i hi hm h1 h2 => e _ (h.2 i hi hm h1 h2)⟩
def cD (C : Cm) : List (List Int × D) := C.map fun q => (q.1, .tup (q.2.map .int))
theorem cD_keys (C : Cm) : (cD C).map (·.1) = kys C := by unfold cD kys; rw [List.map_map]; rfl
def dC (C : Cm) : D := .dT ((cD C).map fun q => keyT q.1) ((cD C).map (·.2))
def dR (C : Cm) : D := .lst ((kys C).map fun k => .tup (k.map .int))
theorem dC_get {C : Cm} {k w : List Int} (hn : (kys C).Nodup) (h : (k, w) ∈ C) : gDGet (dC C) (.tup (k.map .int)) = some (.tup (w.map .int)) := by
  unfold gDGet atD dC
  simp only [tkeyD_ints, Option.map_some, Option.bind_some, id]
  exact valD_key (by rw [cD_keys]; exact hn) (List.mem_map.mpr ⟨_, h, rfl⟩)
theorem valD_some_mem {C : List (List Int × D)} {k : List Int} (h : k ∈ C.map (·.1)) : ∃ d, valD (C.map fun q => keyT q.1) (C.map (·.2)) (keyT k) = some d := by
  induction C with
  | nil => cases h
  | cons q r ih =>
    simp only [List.map_cons, valD]
    by_cases e : keyT q.1 = keyT k
    · exact ⟨_, if_pos e⟩
    · rw [if_neg e]
      simp only [List.map_cons, List.mem_cons] at h
      rcases h with h | h
      · exact absurd (by rw [h]) e
      · exact ih h
theorem dC_in {C : Cm} {k : List Int} : gDNotIn (.tup (k.map .int)) (dC C) = some (.bl (decide (k ∉ kys C))) := by
  unfold gDNotIn atD dC
  simp only [tkeyD_ints, Option.map_some]
  by_cases h : k ∈ kys C
  · obtain ⟨d, e⟩ := valD_some_mem (C := cD C) (k := k) (by rw [cD_keys]; exact h)
    rw [e]
    simp [h]
  · rw [valD_none (C := cD C) (by rw [cD_keys]; exact h)]
    simp [h]
theorem dC_put {C : Cm} {k w : List Int} (hk : k ∉ kys C) (hl : C.length < lim) : putA (dC C) (.tup (k.map .int)) (.tup (w.map .int)) = some (dC (C ++ [(k, w)])) := by
  unfold putA dC
  simp only [tkeyD_ints, Option.bind_some]
  rw [if_pos (by simp [cD]; exact hl), putD_new (by rw [cD_keys]; exact hk)]
  simp [cD]
theorem cut_mid {h : List Int} {i : Nat} {z : Int} (hz : h[i]? = some z) : cutD (h.map .int) none (some (i : Int)) ++ (D.int (z + 1) :: cutD (h.map .int) (some ((i : Int) + 1)) none) = (inc h (i : Int)).map D.int := by
  have hlt := (List.getElem?_eq_some_iff.mp hz).1
  have e1 : cutD (h.map D.int) none (some (i : Int)) = (h.take i).map .int := by
    unfold cutD
    rw [HT.sIx_none, HT.sIx_nat, List.drop_zero, Nat.sub_zero, List.length_map, Nat.min_eq_left (by omega), List.map_take]
  have e2 : cutD (h.map D.int) (some ((i : Int) + 1)) none = (h.drop (i + 1)).map .int := by
    unfold cutD
    rw [show ((i : Int) + 1) = ((i + 1 : Nat) : Int) by omega, HT.sIx_none, HT.sIx_nat, List.length_map, Nat.min_eq_left (by omega), List.map_drop, List.take_of_length_le (by simp)]
  rw [e1, e2]
  unfold inc
  rw [Int.toNat_natCast, get_cg hz, List.set_eq_take_append_cons_drop, if_pos hlt]
  simp
end K77


set_option Elab.async false
set_option linter.all false
set_option maxRecDepth 100000
set_option maxHeartbeats 4000000
namespace K77
open PySem DL
theorem zeros_valid {p : Int} {c : List Int} (hp : 0 ≤ p) (hc : ∀ x ∈ c, 0 ≤ x ∧ x ≤ 4) : Valid p c (List.replicate c.length 0) := by
  have z : ∀ i : Int, cg (List.replicate c.length 0) i = 0 := fun i => by
    unfold cg
    rw [List.getD_eq_getElem?_getD, List.getElem?_replicate]
    split <;> rfl
  refine ⟨by simp, fun i hi => by rw [z]; exact Int.le_refl 0, fun i hi => by rw [z]; exact (hc _ (cg_mem hi)).1, ?_⟩
  have e : ∀ n : Nat, (List.replicate n (0 : Int)).sum = 0 := fun n => by
    induction n with
    | zero => rfl
    | succ n ih => rw [List.replicate_succ, List.sum_cons, ih]; rfl
  rw [e]
  exact hp
/-- one state is opened -/
theorem open_one {p : Int} {c : List Int} {C : Cm} {k w : List Int} {i : Nat} (b : BI p c C) (hm : (k, w) ∈ C) (hi : (i : Int) ∈ rg c.length) (hs : SafeSt p c k) (h1 : cg k i < cg c i) (h2 : k.sum < p) (hn : inc k (i : Int) ∉ kys C) : BI p c (C ++ [(inc k (i : Int), w ++ [(i : Int)])]) := by
  obtain ⟨v, po, e⟩ := b.ok _ hm
  have e : run c.length w = k := e
  have v : Valid p c k := v
  refine ⟨?_, ?_, fun q hq => ?_⟩
  · unfold kys
    rw [List.map_append, List.map_cons, List.map_nil]
    refine List.nodup_append.mpr ⟨b.nd, by simp, fun x hx y hy => ?_⟩
    have : y = inc k (i : Int) := by simpa using hy
    rw [this]
    rintro rfl
    exact hn hx
  · have := b.hd
    unfold kys at this ⊢
    rw [List.map_append, List.getElem?_append_left]
    · exact this
    · exact (List.getElem?_eq_some_iff.mp this).1
  · rcases List.mem_append.mp hq with z | z
    · exact b.ok q z
    · have : q = (inc k (i : Int), w ++ [(i : Int)]) := by simpa using z
      subst this
      have vi := v.inc hi h1 h2
      exact ⟨vi, po.snoc (by rw [e]; exact hs) hi (by rw [e]; exact vi), by rw [run_snoc, e]⟩
theorem kys_app {C : Cm} {q : List Int × List Int} : ∀ k ∈ kys C, k ∈ kys (C ++ [q]) := fun k hk => by
  unfold kys at hk ⊢
  rw [List.map_append]
  exact List.mem_append_left _ hk
abbrev fBody : St1 := (cIf (bAnd (bTest (eOp gLt (eVarB 7) (eOp gIx (eAttr 0 1 (eVarB 0)) (eVarB 6)))) (bTest (eOp gLt (eL (aCons (eVarB 5) (aNil)) gSumA) (eAttr 0 0 (eVarB 0))))) (cSeq (cSet 8 (eL (aStar (eSlice asTup .tup (eVarB 5) (oNone) (oSome (eVar 6))) (aCons (eOp gAdd (eVarB 7) (eC (.int 1))) (aStar (eSlice asTup .tup (eVarB 5) (oSome (eOp gAdd (eVarB 6) (eC (.int 1)))) (oNone)) (aNil)))) mkT)) (cIf (bTest (eOp gDNotIn (eVarB 8) (eVarB 2))) (cSeq (cPutD 2 (eL (aStar (eOp gDGet (eVarB 2) (eVarB 5)) (aCons (eVar 6) (aNil))) mkT) (eVar 8)) (cApp 3 (eVar 8))) (cNext))) (cNext))
def fst (p : Int) (c : List Int) (x1 : Sl) (C : Cm) (a : Int) (y5 y6 y7 y8 : Sl) : S := ⟨[.val (spD p c), x1, .own (dC C), .own (dR C), .val (.int a), y5, y6, y7, y8], 0, []⟩
theorem for_open {p : Int} {c : List Int} {x1 : Sl} {C : Cm} {k w : List Int} {a : Int} {y6 y7 y8 : Sl} (hl : c.length ≤ 4) (hc : ∀ x ∈ c, 0 ≤ x ∧ x ≤ 4) (b : BI p c C) (hm : (k, w) ∈ C) (hs : SafeSt p c k) :
    ∃ s', cFor (eItL enLT (aCons (eVarL 5) (aNil))) (bTup 2 (bCons (bName 6) (bCons (bName 7) (bNil)))) fBody (fst p c x1 C a (.val (.tup (k.map .int))) y6 y7 y8) = some (.nx s') ∧
      ∃ C' y6 y7 y8, s' = fst p c x1 C' a (.val (.tup (k.map .int))) y6 y7 y8 ∧ BI p c C' ∧ (∃ E, C' = C ++ E) ∧ Dn p c C' k c.length := by
  have v : Valid p c k := (b.ok _ hm).1
  obtain ⟨s', h1, C', y6', y7', y8', e, b', ex, dn⟩ := cFor_inv (P := fun n s => ∃ C' y6 y7 y8, s = fst p c x1 C' a (.val (.tup (k.map .int))) y6 y7 y8 ∧ BI p c C' ∧ (∃ E, C' = C ++ E) ∧ Dn p c C' k n) (items := enumD (k.map .int)) (s := fst p c x1 C a (.val (.tup (k.map .int))) y6 y7 y8) (s1 := fst p c x1 C a (.val (.tup (k.map .int))) y6 y7 y8)
    (it := eItL enLT (aCons (eVarL 5) (aNil))) (b := bTup 2 (bCons (bName 6) (bCons (bName 7) (bNil)))) (body := fBody) rfl ⟨C, y6, y7, y8, rfl, b, ⟨[], by simp⟩, hs, fun i hi hz => by have := (mem_rg.mp hi).1; omega⟩ (fun i d s hi ⟨C', y6, y7, y8, e, b', ⟨E, eE⟩, dn⟩ => by
      subst e
      obtain ⟨z, hz, rfl⟩ := enum_ints hi
      have hlt := (List.getElem?_eq_some_iff.mp hz).1
      have hi' : (i : Int) ∈ rg c.length := mem_rg.mpr ⟨by omega, by rw [← v.len]; omega⟩
      have ez := get_cg hz
      have hm' : (k, w) ∈ C' := by rw [eE]; exact List.mem_append_left _ hm
      let t1 := fst p c x1 C' a (.val (.tup (k.map .int))) (.val (.int i)) (.val (.int z)) y8
      have next : ∀ {C'' : Cm}, (∀ q ∈ kys C', q ∈ kys C'') → (cg k i < cg c i → k.sum < p → inc k i ∈ kys C'') → Dn p c C'' k (i + 1) := fun {C''} h1 h2 => ⟨hs, fun j hj hlt2 h3 h4 => by
        by_cases e : j = (i : Int)
        · rw [e] at h3 ⊢
          exact h2 h3 h4
        · exact h1 _ (dn.2 j hj (by omega) h3 h4)⟩
      have hcnd : bAnd (bTest (eOp gLt (eVarB 7) (eOp gIx (eAttr 0 1 (eVarB 0)) (eVarB 6)))) (bTest (eOp gLt (eL (aCons (eVarB 5) (aNil)) gSumA) (eAttr 0 0 (eVarB 0)))) t1 = some (decide (cg k i < cg c i) && decide (k.sum < p), t1) := by
        have a1 : bTest (eOp gLt (eVarB 7) (eOp gIx (eAttr 0 1 (eVarB 0)) (eVarB 6))) t1 = some (decide (cg k i < cg c i), t1) := by
          rw [ez]
          exact bTest_of (eOp_of (d1 := .int z) (d2 := .int (cg c i)) rfl (eOp_of rfl rfl (ix_tup hi')) rfl)
        have a2 : bTest (eOp gLt (eL (aCons (eVarB 5) (aNil)) gSumA) (eAttr 0 0 (eVarB 0))) t1 = some (decide (k.sum < p), t1) := bTest_of (eOp_of (d1 := .int k.sum) (d2 := .int p) (eL_of (aCons_of rfl rfl) (sumT k)) rfl rfl)
        unfold bAnd
        rw [a1, Option.bind_some]
        by_cases q : cg k i < cg c i
        · simp only [q, decide_true, if_true, Bool.true_and]
          exact a2
        · simp only [q, decide_false, if_false, Bool.false_and, Bool.false_eq_true]
      by_cases q : cg k i < cg c i ∧ k.sum < p
      · have hcnd' : bAnd (bTest (eOp gLt (eVarB 7) (eOp gIx (eAttr 0 1 (eVarB 0)) (eVarB 6)))) (bTest (eOp gLt (eL (aCons (eVarB 5) (aNil)) gSumA) (eAttr 0 0 (eVarB 0)))) t1 = some (true, t1) := by
          rw [hcnd]
          simp [q.1, q.2]
        let L := inc k (i : Int)
        let t2 := fst p c x1 C' a (.val (.tup (k.map .int))) (.val (.int i)) (.val (.int z)) (.val (.tup (L.map .int)))
        have hlate : eL (aStar (eSlice asTup .tup (eVarB 5) (oNone) (oSome (eVar 6))) (aCons (eOp gAdd (eVarB 7) (eC (.int 1))) (aStar (eSlice asTup .tup (eVarB 5) (oSome (eOp gAdd (eVarB 6) (eC (.int 1)))) (oNone)) (aNil)))) mkT t1 = some (.tup (L.map .int), t1) := by
          show (mkT (cutD (k.map .int) none (some (i : Int)) ++ (D.int (z + 1) :: (cutD (k.map .int) (some ((i : Int) + 1)) none ++ [])))).map _ = _
          rw [List.append_nil, cut_mid hz]
          unfold mkT
          rw [if_pos (by rw [List.length_map, inc_len, v.len]; unfold lim; omega)]
          rfl
        have hnotin : bTest (eOp gDNotIn (eVarB 8) (eVarB 2)) t2 = some (decide (L ∉ kys C'), t2) := bTest_of (eOp_of rfl rfl dC_in)
        have hbody1 : cSet 8 (eL (aStar (eSlice asTup .tup (eVarB 5) (oNone) (oSome (eVar 6))) (aCons (eOp gAdd (eVarB 7) (eC (.int 1))) (aStar (eSlice asTup .tup (eVarB 5) (oSome (eOp gAdd (eVarB 6) (eC (.int 1)))) (oNone)) (aNil)))) mkT) t1 = some (.nx t2) := cSet_of (s := t1) (s1 := t1) hlate
        by_cases hL : L ∈ kys C'
        · refine ⟨t1, rfl, t2, .inl ?_, C', _, _, _, rfl, b', ⟨E, eE⟩, next (fun _ h => h) fun _ _ => hL⟩
          unfold fBody
          rw [cIf_tt hcnd', cSeq_nx hbody1, cIf_ff (s1 := t2) (by rw [hnotin]; simp [hL])]
          rfl
        · have b'' := open_one b' hm' hi' hs q.1 q.2 hL
          have hfew := b''.few hl hc
          have hfew' : C'.length < lim := by rw [List.length_append] at hfew; unfold lim; omega
          let C'' := C' ++ [(L, w ++ [(i : Int)])]
          let t3 : S := ⟨[.val (spD p c), x1, .own (dC C''), .own (dR C'), .val (.int a), .val (.tup (k.map .int)), .val (.int i), .val (.int z), .val (.tup (L.map .int))], 0, []⟩
          have hput : cPutD 2 (eL (aStar (eOp gDGet (eVarB 2) (eVarB 5)) (aCons (eVar 6) (aNil))) mkT) (eVar 8) t2 = some (.nx t3) := by
            have e1 : eL (aStar (eOp gDGet (eVarB 2) (eVarB 5)) (aCons (eVar 6) (aNil))) mkT t2 = some (.tup ((w ++ [(i : Int)]).map .int), t2) := by
              have a1 : eOp gDGet (eVarB 2) (eVarB 5) t2 = some (.tup (w.map .int), t2) := eOp_of (d1 := dC C') (d2 := .tup (k.map .int)) rfl rfl (dC_get b'.nd hm')
              unfold eL aStar
              rw [a1, Option.bind_some]
              show (mkT (w.map .int ++ [.int i])).map _ = _
              have hw : (w ++ [(i : Int)]).length ≤ lim := by
                have po : PathOk p c w := (b'.ok _ hm').2.1
                have e3 : (run c.length w).sum = w.length := by
                  have go : ∀ m, m ≤ w.length → (run c.length (w.take m)).sum = m := fun m => by
                    induction m with
                    | zero => intro _; simp [run]
                    | succ m ih =>
                      intro hm2
                      have hw : w[m]? = some w[m] := by simp
                      rw [List.take_succ, hw]
                      simp only [Option.toList]
                      rw [run_snoc, inc_sum, ih (by omega)]
                      · omega
                      · rw [(po.val m (by omega)).len]
                        exact po.mem _ (List.getElem_mem _)
                  have := go w.length (Nat.le_refl _)
                  rw [List.take_length] at this
                  exact this
                have e4 : run c.length w = k := (b'.ok _ hm').2.2
                have e5 : k.sum ≤ 4 * c.length := by
                  rw [← v.smh]
                  have : ∀ r : List Int, (∀ j ∈ r, j ∈ rg c.length) → sm (cg k) r ≤ 4 * r.length := fun r => by
                    induction r with
                    | nil => intro _; simp [sm_nil]
                    | cons x r ih =>
                      intro hr
                      have a := ih fun j hj => hr j (List.mem_cons_of_mem _ hj)
                      have b1 := v.hi x (hr x List.mem_cons_self)
                      have b2 := (hc _ (cg_mem (hr x List.mem_cons_self))).2
                      rw [sm_cons, List.length_cons]
                      omega
                  have := this (rg c.length) fun _ h => h
                  rw [rg_len] at this
                  exact this
                rw [e4] at e3
                rw [List.length_append]
                simp
                unfold lim
                omega
              rw [show w.map D.int ++ [D.int i] = (w ++ [(i : Int)]).map .int by simp]
              unfold mkT
              rw [if_pos (by rw [List.length_map]; exact hw)]
              rfl
            unfold cPutD
            rw [e1, Option.bind_some]
            show (putA (dC C') (.tup (L.map .int)) (.tup ((w ++ [(i : Int)]).map .int))).map _ = _
            rw [dC_put hL hfew']
            rfl
          refine ⟨t1, rfl, fst p c x1 C'' a (.val (.tup (k.map .int))) (.val (.int i)) (.val (.int z)) (.val (.tup (L.map .int))), .inl ?_, C'', _, _, _, rfl, b'', ⟨E ++ [(L, w ++ [(i : Int)])], by rw [← List.append_assoc, ← eE]⟩, next kys_app fun _ _ => by
            show L ∈ kys (C' ++ _)
            unfold kys
            simp⟩
          unfold fBody
          rw [cIf_tt hcnd', cSeq_nx hbody1, cIf_tt (s1 := t2) (by rw [hnotin]; simp [hL]), cSeq_nx hput, cApp_of (s := t3) (s1 := t3) (ys := (kys C').map fun k => .tup (k.map .int)) (xs := (kys C').map fun k => .tup (k.map .int)) (d := .tup (L.map .int)) rfl rfl rfl (by simp [kys]; exact hfew')]
          show some (Out.nx ⟨[.val (spD p c), x1, .own (dC C''), .own (.lst ((kys C').map (fun k => D.tup (k.map .int)) ++ [.tup (L.map .int)])), _, _, _, _, _], 0, []⟩) = _
          rw [show (kys C').map (fun k => D.tup (k.map .int)) ++ [.tup (L.map .int)] = (kys C'').map fun k => D.tup (k.map .int) by simp [C'', kys]]
          rfl
      · have hcnd' : bAnd (bTest (eOp gLt (eVarB 7) (eOp gIx (eAttr 0 1 (eVarB 0)) (eVarB 6)))) (bTest (eOp gLt (eL (aCons (eVarB 5) (aNil)) gSumA) (eAttr 0 0 (eVarB 0)))) t1 = some (false, t1) := by
          rw [hcnd]
          have : (decide (cg k i < cg c i) && decide (k.sum < p)) = false := by
            rw [Bool.and_eq_false_iff]
            by_cases q1 : cg k i < cg c i
            · right
              simpa using fun q2 => q ⟨q1, q2⟩
            · left
              simpa using q1
          rw [this]
        refine ⟨t1, rfl, t1, .inl ?_, C', _, _, _, rfl, b', ⟨E, eE⟩, next (fun _ h => h) fun h1 h2 => absurd ⟨h1, h2⟩ q⟩
        unfold fBody
        rw [cIf_ff hcnd']
        rfl)
  refine ⟨s', h1, C', y6', y7', y8', e, b', ex, ?_⟩
  rw [enumD_len, List.length_map, v.len] at dn
  exact dn
end K77


set_option Elab.async false
set_option linter.all false
set_option maxRecDepth 100000
set_option maxHeartbeats 4000000
namespace K77
open PySem DL
/-! ### first_stuck -/
theorem bi_start {p : Int} {c : List Int} (hp : 0 ≤ p) (hc : ∀ x ∈ c, 0 ≤ x ∧ x ≤ 4) : BI p c [(List.replicate c.length 0, [])] := by
  refine ⟨by simp [kys], rfl, fun q hq => ?_⟩
  have : q = (List.replicate c.length 0, []) := by simpa using hq
  subst this
  refine ⟨zeros_valid hp hc, ⟨fun i hi => (by cases hi), fun m hm => ?_, fun m hm => (by simp at hm)⟩, rfl⟩
  rw [List.take_nil]
  exact zeros_valid hp hc
/-- what first_stuck says -/
def FR (p : Int) (c : List Int) (r : D) : Prop := (r = .non ∧ ∀ h, Valid p c h → SafeSt p c h) ∨ ∃ w, r = .lst (w.map .int) ∧ PathOk p c w ∧ ¬ SafeSt p c (run c.length w)
theorem e_first {p : Int} {c : List Int} (hl : 1 ≤ c.length ∧ c.length ≤ 4) (hc : ∀ x ∈ c, 0 ≤ x ∧ x ≤ 4) (hp : 0 ≤ p) : ∃ r, f_first_stuck [spD p c] = some r ∧ FR p c r := by
  unfold f_first_stuck runP d_first_stuck
  rw [show argE 9 [spD p c] = [.val (spD p c), .no, .no, .no, .no, .no, .no, .no, .no] from rfl]
  rw [cSeq_nx (s1 := ⟨[.val (spD p c), .no, .no, .no, .no, .no, .no, .no, .no], 0, []⟩) ((cIf_ff (s1 := ⟨[.val (spD p c), .no, .no, .no, .no, .no, .no, .no, .no], 0, []⟩) (bNot_of (b := true) (bTest_of (eUn_of (g := gIsC it_Space is_Space) (f := eVarB 0) (d1 := spD p c) rfl rfl)))).trans rfl)]
  let Z := List.replicate c.length (0 : Int)
  have hrep : gRepT (.tup [.int 0]) (.int c.length) = some (.tup (Z.map .int)) := by
    unfold gRepT
    simp only
    rw [if_pos ⟨by simp, by omega, by omega, by simp⟩]
    congr 2
    rw [Int.toNat_natCast]
    have : ∀ n : Nat, (List.replicate n [D.int 0]).flatten = (List.replicate n (0 : Int)).map .int := fun n => by
      induction n with
      | zero => rfl
      | succ n ih => rw [List.replicate_succ, List.flatten_cons, ih, List.replicate_succ, List.map_cons]; rfl
    exact this _
  have hmk1 : mkT [.int 0] = some (.tup [.int 0]) := by
    unfold mkT
    rw [if_pos (by show 1 ≤ lim; unfold lim; omega)]
  rw [cSeq_nx (s1 := ⟨[.val (spD p c), .val (.tup (Z.map .int)), .no, .no, .no, .no, .no, .no, .no], 0, []⟩) (cSet_of (s := ⟨[.val (spD p c), .no, .no, .no, .no, .no, .no, .no, .no], 0, []⟩) (s1 := ⟨[.val (spD p c), .no, .no, .no, .no, .no, .no, .no, .no], 0, []⟩) (eOp_of (d1 := .tup [.int 0]) (d2 := .int c.length) (eL_of rfl hmk1) (eL_of (ds := [.tup (c.map .int)]) rfl (by simp [gLen])) hrep))]
  have hmkT0 : mkT [] = some (.tup []) := by
    unfold mkT
    rw [if_pos (show ([] : List D).length ≤ lim from Nat.zero_le _)]
  have hmkL1 : mkL [.tup (Z.map .int)] = some (.lst [.tup (Z.map .int)]) := by
    unfold mkL
    rw [if_pos (by show 1 ≤ lim; unfold lim; omega)]
  have hdisp : gDisp1 (.tup (Z.map .int)) (.tup []) = some (dC [(Z, [])]) := by
    unfold gDisp1
    rw [tkeyD_ints]
    rfl
  rw [cSeq_nx (s1 := fst p c (.val (.tup (Z.map .int))) [(Z, [])] 0 .no .no .no .no) (by
    have a1 : eOp gDisp1 (eVar 1) (eL (aNil) mkT) ⟨[.val (spD p c), .val (.tup (Z.map .int)), .no, .no, .no, .no, .no, .no, .no], 0, []⟩ = some (dC [(Z, [])], ⟨[.val (spD p c), .val (.tup (Z.map .int)), .no, .no, .no, .no, .no, .no, .no], 0, []⟩) := eOp_of rfl (eL_of rfl hmkT0) hdisp
    have a2 : eL (aCons (eVar 1) (aNil)) mkL ⟨[.val (spD p c), .val (.tup (Z.map .int)), .no, .no, .no, .no, .no, .no, .no], 0, []⟩ = some (.lst [.tup (Z.map .int)], ⟨[.val (spD p c), .val (.tup (Z.map .int)), .no, .no, .no, .no, .no, .no, .no], 0, []⟩) := eL_of rfl hmkL1
    unfold cPar xOwn
    rw [a1, Option.bind_some, a2]
    rfl)]
  obtain ⟨o, h1, h2⟩ := cWhile_inv (N := fuel) (n := 625) (s := fst p c (.val (.tup (Z.map .int))) [(Z, [])] 0 .no .no .no .no) (c := bTest (eOp gLt (eVarB 4) (eL (aCons (eVarB 3) (aNil)) gLen)))
    (body := (cSeq (cSet 5 (eOp gIx (eVarB 3) (eVarB 4))) (cSeq (cAug 4 gAugAdd (eC (.int 1))) (cSeq (cIf (bNot (bObjs tb_CanEnd_Stuck (eL (aCons (eVarB 0) (aCons (eVarB 5) (aNil))) f_judge_space))) (cRet (eL (aCons (eOp gDGet (eVarB 2) (eVarB 5)) (aNil)) gList)) (cNext)) (cFor (eItL enLT (aCons (eVarL 5) (aNil))) (bTup 2 (bCons (bName 6) (bCons (bName 7) (bNil)))) fBody)))))
    (P := fun m s => ∃ C a y5 y6 y7 y8, s = fst p c (.val (.tup (Z.map .int))) C (a : Nat) y5 y6 y7 y8 ∧ a + m = 625 ∧ BI p c C ∧ a ≤ C.length ∧ ∀ j < a, ∀ k, (kys C)[j]? = some k → Dn p c C k c.length)
    (Post := fun o => (∃ s, o = .nx s ∧ ∀ h, Valid p c h → SafeSt p c h) ∨ ∃ w s, o = .rt (.lst (w.map .int)) s ∧ PathOk p c w ∧ ¬ SafeSt p c (run c.length w))
    (by unfold fuel; omega) ⟨[(Z, [])], 0, _, _, _, _, rfl, rfl, bi_start hp hc, Nat.zero_le _, fun j hj => by omega⟩ (by
      rintro m s ⟨C, a, y5, y6, y7, y8, rfl, ham, b, haC, hdn⟩
      have hfew := b.few hl.2 hc
      have hlen : gLen [dR C] = some (.int C.length) := by simp [dR, gLen, kys]
      refine ⟨decide (a < C.length), fst p c (.val (.tup (Z.map .int))) C a y5 y6 y7 y8, ?_, ?_⟩
      · refine bTest_of (eOp_of (d1 := .int a) (d2 := .int C.length) rfl (eL_of (aCons_of rfl rfl) hlen) ?_)
        show some (D.bl (decide ((a : Int) < (C.length : Int)))) = _
        simp
      · by_cases hlt : a < C.length
        · rw [if_pos (by simpa using hlt)]
          obtain ⟨⟨k, w⟩, hq⟩ : ∃ q, C[a]? = some q := ⟨C[a], by simp [hlt]⟩
          have hm : (k, w) ∈ C := List.mem_of_getElem? hq
          have hk : (kys C)[a]? = some k := by unfold kys; rw [List.getElem?_map, hq]; rfl
          obtain ⟨v, po, er⟩ := b.ok _ hm
          have v : Valid p c k := v
          have er : run c.length w = k := er
          have hix : gIx (dR C) (.int (a : Nat)) = some (.tup (k.map .int)) := L2.atI_nat (by rw [List.getElem?_map, hk]; rfl)
          rw [cSeq_nx (s1 := fst p c (.val (.tup (Z.map .int))) C a (.val (.tup (k.map .int))) y6 y7 y8) (cSet_of (s := fst p c (.val (.tup (Z.map .int))) C a y5 y6 y7 y8) (s1 := fst p c (.val (.tup (Z.map .int))) C a y5 y6 y7 y8) (eOp_of rfl rfl hix))]
          rw [cSeq_nx (s1 := fst p c (.val (.tup (Z.map .int))) C ((a + 1 : Nat) : Int) (.val (.tup (k.map .int))) y6 y7 y8) (by
            show some (Out.nx (fst p c (.val (.tup (Z.map .int))) C ((a : Int) + 1) (.val (.tup (k.map .int))) y6 y7 y8)) = _
            rw [show ((a : Int) + 1) = ((a + 1 : Nat) : Int) by omega])]
          have hj : bNot (bObjs tb_CanEnd_Stuck (eL (aCons (eVarB 0) (aCons (eVarB 5) (aNil))) f_judge_space)) (fst p c (.val (.tup (Z.map .int))) C ((a + 1 : Nat) : Int) (.val (.tup (k.map .int))) y6 y7 y8) = some (!(J p c k).1, fst p c (.val (.tup (Z.map .int))) C ((a + 1 : Nat) : Int) (.val (.tup (k.map .int))) y6 y7 y8) :=
            bNot_of (bObjs_of (eL_of (ds := [spD p c, .tup (k.map .int)]) rfl (e_judge true v hl.2)) (tru_J _))
          by_cases hs : (J p c k).1 = true
          · rw [hs] at hj
            rw [cSeq_nx (s1 := fst p c (.val (.tup (Z.map .int))) C ((a + 1 : Nat) : Int) (.val (.tup (k.map .int))) y6 y7 y8) ((cIf_ff hj).trans rfl)]
            obtain ⟨s', h3, C', z6, z7, z8, rfl, b', ⟨E, rfl⟩, dn'⟩ := for_open (x1 := .val (.tup (Z.map .int))) (a := ((a + 1 : Nat) : Int)) (y6 := y6) (y7 := y7) (y8 := y8) hl.2 hc b hm ((J_safe v).mp hs)
            refine ⟨_, h3, 625 - (a + 1), by omega, C ++ E, a + 1, _, _, _, _, rfl, by omega, b', by rw [List.length_append]; omega, fun j hj k' hk' => ?_⟩
            by_cases e : j = a
            · subst e
              unfold kys at hk hk'
              rw [List.map_append, List.getElem?_append_left (by simpa using hlt), hk] at hk'
              cases hk'
              exact dn'
            · have hja : j < a := by omega
              have hk2 : (kys C)[j]? = some k' := by
                unfold kys at hk' ⊢
                rw [List.map_append, List.getElem?_append_left (by simp; omega)] at hk'
                exact hk'
              exact (hdn j hja k' hk2).mono fun q hq => by
                unfold kys at hq ⊢
                rw [List.map_append]
                exact List.mem_append_left _ hq
          · have hs' : (J p c k).1 = false := by simpa using hs
            rw [hs'] at hj
            rw [cSeq_rt (d := .lst (w.map .int)) (s1 := fst p c (.val (.tup (Z.map .int))) C ((a + 1 : Nat) : Int) (.val (.tup (k.map .int))) y6 y7 y8) ((cIf_tt hj).trans (cRet_of (eL_of (ds := [.tup (w.map .int)]) (aCons_of (eOp_of (d1 := dC C) (d2 := .tup (k.map .int)) rfl rfl (dC_get b.nd hm)) rfl) rfl)))]
            refine ⟨_, rfl, .inr ⟨w, _, rfl, po, fun z => hs ?_⟩⟩
            rw [er] at z
            exact (J_safe v).mpr z
        · rw [if_neg (by simpa using hlt)]
          refine .inl ⟨_, rfl, fun h vh => ?_⟩
          have ea : a = C.length := by omega
          have all : ∀ k ∈ kys C, Dn p c C k c.length := fun k hk => by
            obtain ⟨j, hj⟩ := List.mem_iff_getElem?.mp hk
            have := (List.getElem?_eq_some_iff.mp hj).1
            exact hdn j (by unfold kys at this; simp at this; omega) k hj
          have : h ∈ kys C := mem_of_valid (List.mem_of_getElem? b.hd) (fun k hk => by
            obtain ⟨q, hq, rfl⟩ := List.mem_map.mp hk
            exact (b.ok q hq).1) (fun k hk i hi h1 h2 => (all k hk).2 i hi (mem_rg.mp hi).2 h1 h2) vh
          exact (all h this).1)
  rw [cSeq, h1, Option.bind_some]
  rcases h2 with ⟨s, rfl, hs⟩ | ⟨w, s, rfl, po, hs⟩
  · exact ⟨.non, rfl, .inl ⟨rfl, hs⟩⟩
  · exact ⟨_, rfl, .inr ⟨w, rfl, po, hs⟩⟩
end K77


set_option Elab.async false
set_option linter.all false
set_option maxRecDepth 100000
set_option maxHeartbeats 4000000
namespace K77
open PySem DL
/-! ### a proof of standing still -/
theorem eComp_map {vs : List Nat} {b : Bd} {f : M D} {it : M (List D)} {s s1 : S} {ns : List Int} {e : Int → D} (h0 : it s = some (ns.map .int, s1)) (hl : ns.length ≤ lim)
    (h : ∀ i ∈ ns, ∃ t1, b (.int i) (s1.wipe vs) = some t1 ∧ ∃ t3, f t1 = some (e i, t3) ∧ t3.wipe vs = s1.wipe vs) : eComp it vs b bYes f s = some (.lst (ns.map e), (s1.wipe vs).rest s1 vs) := by
  have := eComp_ints (it := it) (vs := vs) (b := b) (u := bYes) (f := f) (s := s) (s1 := s1) (ns := ns) (P := fun _ => true) (e := e) h0 hl fun i hi => by
    obtain ⟨t1, h1, t3, h3, h4⟩ := h i hi
    exact ⟨t1, h1, t1, rfl, by rw [if_pos rfl]; exact ⟨t3, h3, h4⟩⟩
  rw [this, List.filter_eq_self.mpr fun _ _ => rfl]
theorem all_bl (ns : List Int) (g : Int → Bool) : gAll [.lst (ns.map fun i => .bl (g i))] = some (.bl (ns.all g)) := by
  rw [show (fun i => D.bl (g i)) = D.bl ∘ g from rfl, ← List.map_map]
  show (blsOf _).map _ = _
  rw [blsOf_map]
  simp [List.all_map]
theorem any_bl (ns : List Int) (g : Int → Bool) : gAny [.lst (ns.map fun i => .bl (g i))] = some (.bl (ns.any g)) := by
  rw [show (fun i => D.bl (g i)) = D.bl ∘ g from rfl, ← List.map_map]
  show (blsOf _).map _ = _
  rw [blsOf_map]
  simp [List.any_map]
theorem e_shows {p : Int} {c h r : List Int} (v : Valid p c h) (hl : c.length ≤ 4) (h1 : r ≠ []) (h2 : r.Nodup) (h3 : ∀ i ∈ r, i ∈ rg c.length) (h4 : ∀ i ∈ r, p - h.sum + sm (cg h) (rg c.length) - sm (cg h) r < ndf c h i) :
    f_Stuck_shows [.obj 1 [.tup (r.map .int)], spD p c, .lst (h.map .int)] = some (.bl true) := by
  have hck := e_check false v
  have hrl : r.length ≤ 4 := by
    have := sm_subset (f := fun _ => 1) h2 (rg_nodup c.length) h3 fun _ _ => by decide
    rw [len_sm, len_sm, rg_len] at this
    omega
  have hlim : r.length ≤ lim := by unfold lim; omega
  unfold f_Stuck_shows runP d_Stuck_shows
  rw [show argE 5 [.obj 1 [.tup (r.map .int)], spD p c, .lst (h.map .int)] = [.val (.obj 1 [.tup (r.map .int)]), .val (spD p c), .bor (.lst (h.map .int)), .no, .no] from rfl]
  let st := fun (y : Sl) => (⟨[.val (.obj 1 [.tup (r.map .int)]), .val (spD p c), .bor (.lst (h.map .int)), y, .no], 0, []⟩ : S)
  rw [cSeq_nx (s1 := st .no) (cDrop_of (d := .non) (s := st .no) (s1 := st .no) (eL_of (ds := [spD p c, .lst (h.map .int)]) rfl hck))]
  have hit : ∀ y, eIt asSeq (eAttr 1 0 (eVarB 0)) (st y) = some (r.map .int, st y) := fun y => rfl
  have c1 : eComp (eIt asSeq (eAttr 1 0 (eVarB 0))) [4] (bName 4) (bYes) (eL (aCons (eVarB 4) (aCons (eC (.int 0)) (aCons (eOp gSub (eL (aCons (eVarB 2) (aNil)) gLen) (eC (.int 1))) (aNil)))) f_is_number) (st .no) = some (.lst (r.map fun i => .bl (decide (0 ≤ i) && decide (i ≤ (h.length : Int) - 1))), st .no) := by
    refine eComp_map (s1 := st .no) (e := fun i => .bl (decide (0 ≤ i) && decide (i ≤ (h.length : Int) - 1))) (hit _) hlim fun i hi => ⟨_, rfl, ⟨[.val (.obj 1 [.tup (r.map .int)]), .val (spD p c), .bor (.lst (h.map .int)), .no, .val (.int i)], 0, []⟩, ?_, rfl⟩
    refine eL_of (ds := [.int i, .int 0, .int ((h.length : Int) - 1)]) (aCons_of rfl (aCons_of rfl (aCons_of (eOp_of (d1 := .int h.length) (d2 := .int 1) (eL_of (ds := [.lst (h.map .int)]) rfl (by simp [gLen])) rfl rfl) rfl))) ?_
    exact e_is_number i 0 _
  have a1 : (r.all fun i => decide (0 ≤ i) && decide (i ≤ (h.length : Int) - 1)) = true := by
    rw [List.all_eq_true]
    intro i hi
    have := mem_rg.mp (h3 i hi)
    have := v.len
    simp
    omega
  rw [cSeq_nx (s1 := st .no) ((cIf_ff (s1 := st .no) (bNot_of (b := true) (bTest_of (eL_of (aCons_of c1 rfl) (by rw [all_bl, a1]))))).trans rfl)]
  have hmkT0 : mkT [] = some (.tup []) := by
    unfold mkT
    rw [if_pos (show ([] : List D).length ≤ lim from Nat.zero_le _)]
  rw [cSeq_nx (s1 := st .no) ((cIf_ff (s1 := st .no) (by
    have b1 : bTest (eOp gEq (eAttr 1 0 (eVarB 0)) (eL (aNil) mkT)) (st .no) = some (false, st .no) := bTest_of (eOp_of (d1 := .tup (r.map .int)) (d2 := .tup []) rfl (eL_of rfl hmkT0) (by
      unfold gEq
      rw [eqD_tnil]
      simp [h1]))
    have b2 : bTest (eOp gLt (eUn gLenSet (eAttr 1 0 (eVarB 0))) (eL (aCons (eAttr 1 0 (eVarB 0)) (aNil)) gLen)) (st .no) = some (false, st .no) := bTest_of (eOp_of (d1 := .int r.length) (d2 := .int r.length) (eUn_of (d1 := .tup (r.map .int)) rfl (by
      show (intsOf (r.map .int)).bind _ = _
      rw [intsOf_map, Option.bind_some, if_pos (by omega), nub_of_nodup h2])) (eL_of (ds := [.tup (r.map .int)]) rfl (by simp [gLen])) (by
      show some (D.bl (decide ((r.length : Int) < (r.length : Int)))) = _
      simp))
    unfold bOr
    rw [b1, Option.bind_some]
    exact b2)).trans rfl)]
  have ixh : ∀ i ∈ r, gIx (.lst (h.map .int)) (.int i) = some (.int (cg h i)) := fun i hi => ix_lst (by rw [v.len]; exact h3 i hi)
  have c2 : eComp (eIt asSeq (eAttr 1 0 (eVarB 0))) [4] (bName 4) (bYes) (eOp gIx (eVarB 2) (eVarB 4)) (st .no) = some (.lst (r.map fun i => .int (cg h i)), st .no) :=
    eComp_map (s1 := st .no) (e := fun i => .int (cg h i)) (hit _) hlim fun i hi => ⟨_, rfl, ⟨[.val (.obj 1 [.tup (r.map .int)]), .val (spD p c), .bor (.lst (h.map .int)), .no, .val (.int i)], 0, []⟩, eOp_of rfl rfl (ixh i hi), rfl⟩
  rw [cSeq_nx (s1 := st (.val (.int (p - sm (cg h) r)))) (cSet_of (s := st .no) (s1 := st .no) (eOp_of (d1 := .int p) (d2 := .int (sm (cg h) r)) rfl (eL_of (aCons_of c2 rfl) (by
    rw [show (fun i => D.int (cg h i)) = D.int ∘ cg h from rfl, ← List.map_map]
    exact sumL _)) rfl))]
  have c3 : eComp (eIt asSeq (eAttr 1 0 (eVarB 0))) [4] (bName 4) (bYes) (eOp gGt (eOp gSub (eOp gIx (eAttr 0 1 (eVarB 1)) (eVarB 4)) (eOp gIx (eVarB 2) (eVarB 4))) (eVarB 3)) (st (.val (.int (p - sm (cg h) r)))) = some (.lst (r.map fun i => .bl (decide (p - sm (cg h) r < cg c i - cg h i))), st (.val (.int (p - sm (cg h) r)))) :=
    eComp_map (s1 := st (.val (.int (p - sm (cg h) r)))) (e := fun i => .bl (decide (p - sm (cg h) r < cg c i - cg h i))) (hit _) hlim fun i hi => ⟨_, rfl, ⟨[.val (.obj 1 [.tup (r.map .int)]), .val (spD p c), .bor (.lst (h.map .int)), .val (.int (p - sm (cg h) r)), .val (.int i)], 0, []⟩, eOp_of (d1 := .int (cg c i - cg h i)) (eOp_of (d1 := .int (cg c i)) (d2 := .int (cg h i)) (eOp_of rfl rfl (ix_tup (h3 i hi))) (eOp_of rfl rfl (ixh i hi)) rfl) rfl rfl, rfl⟩
  have a3 : (r.all fun i => decide (p - sm (cg h) r < cg c i - cg h i)) = true := by
    rw [List.all_eq_true]
    intro i hi
    have := h4 i hi
    rw [v.smh] at this
    unfold ndf at this
    simp
    omega
  rw [cRet_of (eL_of (aCons_of c3 rfl) (by rw [all_bl, a3]))]
theorem stuck_shows {p : Int} {c h : List Int} (v : Valid p c h) (hl : c.length ≤ 4) (hj : (J p c h).1 = false) : f_Stuck_shows [.obj 1 [.tup ((J p c h).2.2.map .int)], spD p c, .lst (h.map .int)] = some (.bl true) := by
  obtain ⟨q1, q2, q3, q4⟩ := jl_stuck (nd := ndf c h) (hd := cg h) (n := c.length) (f := p - h.sum) (o := []) (r := rg c.length) (by rw [rg_len]; exact Nat.le_refl _) (rg_nodup _) hj
  exact e_shows v hl q1 q2 q3 q4
theorem order_sorted {p : Int} {c h : List Int} (hj : (J p c h).1 = true) : gSortedA [.tup ((J p c h).2.1.map .int)] = some (.lst ((rg c.length).map .int)) := by
  have q := jl_order (nd := ndf c h) (hd := cg h) (n := c.length) (f := p - h.sum) (o := []) (r := rg c.length) (by rw [rg_len]; exact Nat.le_refl _) (rg_nodup _) hj
  show (intsOf _).map _ = _
  rw [intsOf_map]
  have e : isort (J p c h).2.1 = rg c.length := by
    refine (isort_unique ?_ ?_).symm
    · rw [List.nil_append] at q
      exact q.symm
    · unfold rg
      rw [List.pairwise_map]
      exact List.pairwise_lt_range.imp fun h => by omega
  rw [Option.map_some, e]
end K77


set_option Elab.async false
set_option linter.all false
set_option maxRecDepth 100000
set_option maxHeartbeats 4000000
namespace K77
open PySem DL
/-! ### the law's state -/
def ls (ns c : List Int) (p : Int) (H : List Int) (k : Nat) (t x7 x8 x9 x10 x11 x12 x13 : Sl) : S := ⟨[.val (.scr ns), .drw, t, .val (.int p), .own (.lst (c.map .int)), .val (spD p c), .own (.lst (H.map .int)), x7, x8, x9, x10, x11, x12, x13, .no, .no, .no], k, ns⟩
def Keep (x : Sl) : Prop := rsS (some x) = x
theorem take1 {ns : List Int} (hn : ns.length ≤ 63) (k : Nat) {m : Int} (hm : 0 < m) : ∃ r : Int, f__law_take [.int m] k ns = some (.int r, k + 1) ∧ 0 ≤ r ∧ r < m := take_ok hn k hm
theorem pick1 {ns : List Int} (hn : ns.length ≤ 63) (k : Nat) {xs : List D} (hx : xs ≠ []) : ∃ d, d ∈ xs ∧ f__law_pick [.lst xs] k ns = some (d, k + 1) := pick_ok hn k hx
/-- a draw in a state whose cell stands at 1 -/
theorem call_take {s : S} {m r : Int} (h : isDrw s 1 = true) (e : f__law_take [.int m] s.k s.scr = some (.int r, s.k + 1)) : eCallE 1 f__law_take (aCons (eC (.int m)) (aNil)) s = some (.int r, { s with k := s.k + 1 }) := by
  have h := isDrw_some h
  unfold eCallE
  rw [h]
  show Option.bind (some ([D.int m], s)) _ = _
  rw [Option.bind_some]
  simp only
  rw [h]
  simp only
  rw [e]
  rfl
theorem call_pick {s : S} {xs : List D} {d : D} (h : isDrw s 1 = true) (h7 : s.env[7]? = some (.val (.lst xs))) (e : f__law_pick [.lst xs] s.k s.scr = some (d, s.k + 1)) : eCallE 1 f__law_pick (aCons (eVarB 7) (aNil)) s = some (d, { s with k := s.k + 1 }) := by
  have h := isDrw_some h
  have e7 : eVarB 7 s = some (.lst xs, s) := by
    unfold eVarB
    rw [h7]
  unfold eCallE
  rw [h]
  simp only
  rw [aCons_of e7 rfl, Option.bind_some]
  simp only
  rw [h]
  simp only
  rw [e]
  rfl
section
variable {ns c H : List Int} {p : Int} {k : Nat} {t x7 x8 x9 x10 x11 x12 x13 : Sl}
theorem ev_sum : eL (aCons (eVarB 6) (aNil)) gSumA (ls ns c p H k t x7 x8 x9 x10 x11 x12 x13) = some (.int H.sum, ls ns c p H k t x7 x8 x9 x10 x11 x12 x13) := eL_of (ds := [.lst (H.map .int)]) rfl (sumL H)
theorem ev_lenc : eL (aCons (eVarB 4) (aNil)) gLen (ls ns c p H k t x7 x8 x9 x10 x11 x12 x13) = some (.int c.length, ls ns c p H k t x7 x8 x9 x10 x11 x12 x13) := eL_of (ds := [.lst (c.map .int)]) rfl (by simp [gLen])
theorem ev_rgc : eItL rg1 (aCons (eL (aCons (eVarB 4) (aNil)) gLen) (aNil)) (ls ns c p H k t x7 x8 x9 x10 x11 x12 x13) = some ((rg c.length).map .int, ls ns c p H k t x7 x8 x9 x10 x11 x12 x13) ∨ 4 < c.length := by
  by_cases hl : c.length ≤ 4
  · left
    unfold eItL
    rw [aCons_of (d := .int c.length) (ds := []) (s2 := ls ns c p H k t x7 x8 x9 x10 x11 x12 x13) ev_lenc rfl, Option.bind_some]
    show (rg1 [.int (c.length : Nat)]).map _ = _
    unfold rg1
    simp only
    rw [if_pos (by omega), Int.toNat_natCast, rangeD0]
    rfl
  · right; omega
theorem ev_judge (v : Valid p c H) (hl : c.length ≤ 4) : eL (aCons (eVarB 5) (aCons (eVarB 6) (aNil))) f_judge_space (ls ns c p H k t x7 x8 x9 x10 x11 x12 x13) = some (objJ (J p c H), ls ns c p H k t x7 x8 x9 x10 x11 x12 x13) := eL_of (ds := [spD p c, .lst (H.map .int)]) rfl (e_judge false v hl)
theorem ev_late (v : Valid p c H) (hl : c.length ≤ 4) {i : Int} (hi : 0 ≤ i) : eComp (eItL enLT (aCons (eVarB 6) (aNil))) [15, 16] (bTup 2 (bCons (bName 15) (bCons (bName 16) (bNil)))) (bYes) (eIf (bTest (eOp gEq (eVarB 15) (eVarB 9))) (eOp gAdd (eVarB 16) (eC (.int 1))) (eVar 16)) (ls ns c p H k t x7 x8 (.val (.int i)) x10 x11 x12 x13) = some (.lst ((inc H i).map .int), ls ns c p H k t x7 x8 (.val (.int i)) x10 x11 x12 x13) := by
  rw [← inc_mapIdx hi]
  refine eComp_enum (s1 := ls ns c p H k t x7 x8 (.val (.int i)) x10 x11 x12 x13) (e := fun j y => if (j : Int) = i then y + 1 else y) rfl (by have := v.len; unfold lim; omega) fun j w hw => ⟨_, rfl, _, rfl, ⟨[.val (.scr ns), .drw, t, .val (.int p), .own (.lst (c.map .int)), .val (spD p c), .own (.lst (H.map .int)), x7, x8, .val (.int i), x10, x11, x12, x13, .no, .val (.int j), .val (.int w)], k, ns⟩, ?_, rfl⟩
  by_cases e : (j : Int) = i
  · rw [if_pos e, eIf_tt (s1 := ⟨[.val (.scr ns), .drw, t, .val (.int p), .own (.lst (c.map .int)), .val (spD p c), .own (.lst (H.map .int)), x7, x8, .val (.int i), x10, x11, x12, x13, .no, .val (.int j), .val (.int w)], k, ns⟩) (bTest_of (eOp_of (d1 := .int j) (d2 := .int i) rfl rfl (by unfold gEq; rw [eqD_int]; simp [e])))]
    rfl
  · rw [if_neg e, eIf_ff (s1 := ⟨[.val (.scr ns), .drw, t, .val (.int p), .own (.lst (c.map .int)), .val (spD p c), .own (.lst (H.map .int)), x7, x8, .val (.int i), x10, x11, x12, x13, .no, .val (.int j), .val (.int w)], k, ns⟩) (bTest_of (eOp_of (d1 := .int j) (d2 := .int i) rfl rfl (by unfold gEq; rw [eqD_int]; simp [e])))]
    rfl
/-- the inner loop of a turn -/
abbrev lCheck : St1 := (cSeq (cSetF 10 (eComp (eItL enLT (aCons (eVarB 6) (aNil))) [15, 16] (bTup 2 (bCons (bName 15) (bCons (bName 16) (bNil)))) (bYes) (eIf (bTest (eOp gEq (eVarB 15) (eVarB 9))) (eOp gAdd (eVarB 16) (eC (.int 1))) (eVar 16)))) (cIf (bAnd (bTest (eOp gLt (eOp gIx (eVarB 6) (eVarB 9)) (eOp gIx (eVarB 4) (eVarB 9)))) (bAnd (bTest (eOp gLt (eL (aCons (eVarB 6) (aNil)) gSumA) (eVarB 3))) (bTest (eOp gNe (eOp (inD false) (eVarB 9) (eVarB 7)) (eB (bObjs tb_CanEnd_Stuck (eL (aCons (eVarB 5) (aCons (eVarB 10) (aNil))) f_judge_space))))))) (cRet (eC (.bl false))) (cNext)))
theorem l_check (v : Valid p c H) (hl : c.length ≤ 4) (hk9 : Keep x9) : ∃ s', cFor (eItL rg1 (aCons (eL (aCons (eVarB 4) (aNil)) gLen) (aNil))) (bName 9) lCheck (ls ns c p H k t (.val (.lst (((rg c.length).filter (goodB p c H)).map .int))) x8 x9 x10 x11 x12 x13) = some (.nx s') ∧
    ∃ x9 x10, Keep x9 ∧ s' = ls ns c p H k t (.val (.lst (((rg c.length).filter (goodB p c H)).map .int))) x8 x9 x10 x11 x12 x13 := by
  have hrg := (ev_rgc (ns := ns) (c := c) (p := p) (H := H) (k := k) (t := t) (x7 := (.val (.lst (((rg c.length).filter (goodB p c H)).map .int)))) (x8 := x8) (x9 := x9) (x10 := x10) (x11 := x11) (x12 := x12) (x13 := x13)).resolve_right (by omega)
  obtain ⟨s', h1, z9, z10, hk, e⟩ := cFor_inv (P := fun _ s => ∃ x9 x10, Keep x9 ∧ s = ls ns c p H k t (.val (.lst (((rg c.length).filter (goodB p c H)).map .int))) x8 x9 x10 x11 x12 x13) (b := bName 9) (body := lCheck) hrg ⟨x9, x10, hk9, rfl⟩ (fun i d s hi ⟨y9, y10, hk, e⟩ => by
    subst e
    obtain ⟨y, hy, rfl⟩ := get_ints hi
    have hym : y ∈ rg c.length := List.mem_of_getElem? hy
    have hy0 := (mem_rg.mp hym).1
    let s1 := ls ns c p H k t (.val (.lst (((rg c.length).filter (goodB p c H)).map .int))) x8 (.val (.int y)) y10 x11 x12 x13
    let s2 := ls ns c p H k t (.val (.lst (((rg c.length).filter (goodB p c H)).map .int))) x8 (.val (.int y)) (.own (.lst ((inc H y).map .int))) x11 x12 x13
    have e1 : cSetF 10 (eComp (eItL enLT (aCons (eVarB 6) (aNil))) [15, 16] (bTup 2 (bCons (bName 15) (bCons (bName 16) (bNil)))) (bYes) (eIf (bTest (eOp gEq (eVarB 15) (eVarB 9))) (eOp gAdd (eVarB 16) (eC (.int 1))) (eVar 16))) s1 = some (.nx s2) := cSetF_of (s := s1) (s1 := s1) (ev_late v hl hy0)
    have a1 : bTest (eOp gLt (eOp gIx (eVarB 6) (eVarB 9)) (eOp gIx (eVarB 4) (eVarB 9))) s2 = some (decide (cg H y < cg c y), s2) := bTest_of (eOp_of (d1 := .int (cg H y)) (d2 := .int (cg c y)) (eOp_of rfl rfl (ix_lst (by rw [v.len]; exact hym))) (eOp_of rfl rfl (ix_lst hym)) rfl)
    have a2 : bTest (eOp gLt (eL (aCons (eVarB 6) (aNil)) gSumA) (eVarB 3)) s2 = some (decide (H.sum < p), s2) := bTest_of (eOp_of (d1 := .int H.sum) (d2 := .int p) ev_sum rfl rfl)
    have ac : bAnd (bTest (eOp gLt (eOp gIx (eVarB 6) (eVarB 9)) (eOp gIx (eVarB 4) (eVarB 9)))) (bAnd (bTest (eOp gLt (eL (aCons (eVarB 6) (aNil)) gSumA) (eVarB 3))) (bTest (eOp gNe (eOp (inD false) (eVarB 9) (eVarB 7)) (eB (bObjs tb_CanEnd_Stuck (eL (aCons (eVarB 5) (aCons (eVarB 10) (aNil))) f_judge_space)))))) s2 = some (false, s2) := by
      unfold bAnd
      rw [a1, Option.bind_some]
      by_cases q1 : cg H y < cg c y
      · simp only [q1, decide_true, if_true]
        rw [a2, Option.bind_some]
        by_cases q2 : H.sum < p
        · simp only [q2, decide_true, if_true]
          have vi := v.inc hym q1 q2
          have j1 : eB (bObjs tb_CanEnd_Stuck (eL (aCons (eVarB 5) (aCons (eVarB 10) (aNil))) f_judge_space)) s2 = some (.bl (J p c (inc H y)).1, s2) := by
            unfold eB
            rw [bObjs_of (d := objJ (J p c (inc H y))) (s1 := s2) (eL_of (ds := [spD p c, .lst ((inc H y).map .int)]) rfl (e_judge false vi hl)) (tru_J _)]
            rfl
          refine bTest_of (eOp_of (eOp_of rfl rfl (inD_ints false y _)) j1 ?_)
          simp only [if_false, Bool.false_eq_true]
          unfold gNe
          rw [eqD_bl]
          have e3 : decide (y ∈ (rg c.length).filter (goodB p c H)) = (J p c (inc H y)).1 := by
            have : y ∈ (rg c.length).filter (goodB p c H) ↔ (J p c (inc H y)).1 = true := by
              rw [List.mem_filter]
              unfold goodB
              simp [hym, q1, q2]
            by_cases g : (J p c (inc H y)).1 = true
            · rw [g]; exact decide_eq_true (this.mpr g)
            · have g' : (J p c (inc H y)).1 = false := by simpa using g
              rw [g']; exact decide_eq_false fun z => g (this.mp z)
          rw [e3]
          simp
        · simp only [q2, decide_false, if_false, Bool.false_eq_true]
      · simp only [q1, decide_false, if_false, Bool.false_eq_true]
    refine ⟨s1, rfl, s2, .inl ?_, .val (.int y), _, rfl, rfl⟩
    unfold lCheck
    rw [cSeq_nx e1, cIf_ff ac]
    rfl)
  exact ⟨s', h1, z9, z10, hk, e⟩
end
end K77


set_option Elab.async false
set_option linter.all false
set_option maxRecDepth 100000
set_option maxHeartbeats 4000000
namespace K77
open PySem DL
section
variable {ns c H : List Int} {p : Int} {k : Nat} {t x7 x8 x9 x10 x11 x12 x13 : Sl}
/-- numbers that can be let go -/
theorem ev_free (v : Valid p c H) (hl : c.length ≤ 4) (hk : Keep x9) : eComp (eItL rg1 (aCons (eL (aCons (eVarB 4) (aNil)) gLen) (aNil))) [9] (bName 9) (bTest (eOp gLt (eOp gIx (eVarB 6) (eVarB 9)) (eOp gIx (eVarB 4) (eVarB 9)))) (eVar 9) (ls ns c p H k t x7 x8 x9 x10 x11 x12 x13) =
    some (.lst (((rg c.length).filter fun i => decide (cg H i < cg c i)).map .int), ls ns c p H k t x7 x8 x9 x10 x11 x12 x13) := by
  have hrg := (ev_rgc (ns := ns) (c := c) (p := p) (H := H) (k := k) (t := t) (x7 := x7) (x8 := x8) (x9 := x9) (x10 := x10) (x11 := x11) (x12 := x12) (x13 := x13)).resolve_right (by omega)
  have := eComp_ints (vs := [9]) (b := bName 9) (u := bTest (eOp gLt (eOp gIx (eVarB 6) (eVarB 9)) (eOp gIx (eVarB 4) (eVarB 9)))) (f := eVar 9) (P := fun i => decide (cg H i < cg c i)) (e := .int) hrg (by rw [rg_len]; unfold lim; omega) fun i hi => ⟨_, rfl, ls ns c p H k t x7 x8 (.val (.int i)) x10 x11 x12 x13, bTest_of (eOp_of (d1 := .int (cg H i)) (d2 := .int (cg c i)) (eOp_of rfl rfl (ix_lst (by rw [v.len]; exact hi))) (eOp_of rfl rfl (ix_lst hi)) rfl), by
    by_cases q : cg H i < cg c i
    · rw [if_pos (by simpa using q)]
      exact ⟨_, rfl, rfl⟩
    · rw [if_neg (by simpa using q)]
      rfl⟩
  rw [this]
  show some (_, (⟨[.val (.scr ns), .drw, t, .val (.int p), .own (.lst (c.map .int)), .val (spD p c), .own (.lst (H.map .int)), x7, x8, rsS (some x9), x10, x11, x12, x13, .no, .no, .no], k, ns⟩ : S)) = _
  rw [hk]
  rfl
abbrev lEnds : M D := (eComp (eItL rg1 (aCons (eL (aCons (eVarB 4) (aNil)) gLen) (aNil))) [9] (bName 9) (bAnd (bTest (eOp gGt (eOp gIx (eVarB 6) (eVarB 9)) (eC (.int 0)))) (bTest (eOp gEq (eCallE 1 f__law_take (aCons (eC (.int 2)) (aNil))) (eC (.int 0))))) (eVar 9))
theorem ev_ends (hn : ns.length ≤ 63) (v : Valid p c H) (hl : c.length ≤ 4) (hk : Keep x9) : ∃ (E : List Int) (k' : Nat), lEnds (ls ns c p H k t x7 x8 x9 x10 x11 x12 x13) = some (.lst (E.map .int), ls ns c p H k' t x7 x8 x9 x10 x11 x12 x13) := by
  have hrg := (ev_rgc (ns := ns) (c := c) (p := p) (H := H) (k := k) (t := t) (x7 := x7) (x8 := x8) (x9 := x9) (x10 := x10) (x11 := x11) (x12 := x12) (x13 := x13)).resolve_right (by omega)
  obtain ⟨ys, k', e, hq⟩ := compLoop_ex (vs := [9]) (b := bName 9) (u := bAnd (bTest (eOp gGt (eOp gIx (eVarB 6) (eVarB 9)) (eC (.int 0)))) (bTest (eOp gEq (eCallE 1 f__law_take (aCons (eC (.int 2)) (aNil))) (eC (.int 0))))) (f := eVar 9) (s0 := fun k => ls ns c p H k t x7 x8 .no x10 x11 x12 x13) (Q := fun y => ∃ i, y = .int i ∧ True) (items := (rg c.length).map .int) [] k (by simp [rg_len]; unfold lim; omega) (fun d hd k => by
    obtain ⟨i, hi, rfl⟩ := List.mem_map.mp hd
    let s1 := ls ns c p H k t x7 x8 (.val (.int i)) x10 x11 x12 x13
    have a1 : bTest (eOp gGt (eOp gIx (eVarB 6) (eVarB 9)) (eC (.int 0))) s1 = some (decide (0 < cg H i), s1) := bTest_of (eOp_of (d1 := .int (cg H i)) (eOp_of rfl rfl (ix_lst (by rw [v.len]; exact hi))) rfl rfl)
    refine ⟨s1, rfl, ?_⟩
    by_cases q : 0 < cg H i
    · obtain ⟨r, h1, _⟩ := take1 hn k (m := 2) (by omega)
      let s2 := ls ns c p H (k + 1) t x7 x8 (.val (.int i)) x10 x11 x12 x13
      have a2 : bTest (eOp gEq (eCallE 1 f__law_take (aCons (eC (.int 2)) (aNil))) (eC (.int 0))) s1 = some (decide (r = 0), s2) := bTest_of (eOp_of (d1 := .int r) (d2 := .int 0) (s1 := s2) (call_take rfl h1) rfl (by unfold gEq; rw [eqD_int]; rfl))
      have a3 : bAnd (bTest (eOp gGt (eOp gIx (eVarB 6) (eVarB 9)) (eC (.int 0)))) (bTest (eOp gEq (eCallE 1 f__law_take (aCons (eC (.int 2)) (aNil))) (eC (.int 0)))) s1 = some (decide (r = 0), s2) := by
        unfold bAnd
        rw [a1, Option.bind_some]
        simp only [q, decide_true, if_true]
        exact a2
      by_cases hr : r = 0
      · left
        refine ⟨s2, .int i, s2, k + 1, by rw [a3]; simp [hr], rfl, rfl, i, rfl, trivial⟩
      · right
        exact ⟨s2, k + 1, by rw [a3]; simp [hr], rfl⟩
    · right
      refine ⟨s1, k, ?_, rfl⟩
      unfold bAnd
      rw [a1, Option.bind_some]
      simp only [q, decide_false, if_false, Bool.false_eq_true])
  obtain ⟨E, rfl, _⟩ := ints_of hq
  refine ⟨E, k', ?_⟩
  unfold lEnds eComp
  rw [hrg, Option.bind_some]
  show Option.map _ (compLoop _ _ _ _ _ [] (ls ns c p H k t x7 x8 .no x10 x11 x12 x13)) = _
  rw [e]
  show some (_, (⟨[.val (.scr ns), .drw, t, .val (.int p), .own (.lst (c.map .int)), .val (spD p c), .own (.lst (H.map .int)), x7, x8, rsS (some x9), x10, x11, x12, x13, .no, .no, .no], k', ns⟩ : S)) = _
  rw [hk]
  rfl
abbrev lGo : M D := (eComp (eItL enLT (aCons (eVarB 6) (aNil))) [9, 16] (bTup 2 (bCons (bName 9) (bCons (bName 16) (bNil)))) (bYes) (eIf (bTest (eOp (inD false) (eVarB 9) (eVarB 12))) (eC (.int 0)) (eVar 16)))
def gone (E H : List Int) : List Int := H.mapIdx fun j y => if decide ((j : Int) ∈ E) then 0 else y
theorem ev_go {E : List Int} (v : Valid p c H) (hl : c.length ≤ 4) (hk : Keep x9) : lGo (ls ns c p H k t x7 x8 x9 x10 x11 (.own (.lst (E.map .int))) x13) = some (.lst ((gone E H).map .int), ls ns c p H k t x7 x8 x9 x10 x11 (.own (.lst (E.map .int))) x13) := by
  have := eComp_enum (vs := [9, 16]) (b := bTup 2 (bCons (bName 9) (bCons (bName 16) (bNil)))) (u := bYes) (f := eIf (bTest (eOp (inD false) (eVarB 9) (eVarB 12))) (eC (.int 0)) (eVar 16)) (it := eItL enLT (aCons (eVarB 6) (aNil))) (s := ls ns c p H k t x7 x8 x9 x10 x11 (.own (.lst (E.map .int))) x13) (s1 := ls ns c p H k t x7 x8 x9 x10 x11 (.own (.lst (E.map .int))) x13) (h := H) (e := fun j y => if decide ((j : Int) ∈ E) then 0 else y) rfl (by have := v.len; unfold lim; omega) fun j w hw =>
    ⟨_, rfl, _, rfl, ⟨[.val (.scr ns), .drw, t, .val (.int p), .own (.lst (c.map .int)), .val (spD p c), .own (.lst (H.map .int)), x7, x8, .val (.int j), x10, x11, .own (.lst (E.map .int)), x13, .no, .no, .val (.int w)], k, ns⟩, by
      have a : bTest (eOp (inD false) (eVarB 9) (eVarB 12)) ⟨[.val (.scr ns), .drw, t, .val (.int p), .own (.lst (c.map .int)), .val (spD p c), .own (.lst (H.map .int)), x7, x8, .val (.int j), x10, x11, .own (.lst (E.map .int)), x13, .no, .no, .val (.int w)], k, ns⟩ = some (decide ((j : Int) ∈ E), ⟨[.val (.scr ns), .drw, t, .val (.int p), .own (.lst (c.map .int)), .val (spD p c), .own (.lst (H.map .int)), x7, x8, .val (.int j), x10, x11, .own (.lst (E.map .int)), x13, .no, .no, .val (.int w)], k, ns⟩) := bTest_of (eOp_of rfl rfl (inD_ints false j E))
      by_cases q : decide ((j : Int) ∈ E) = true
      · rw [if_pos q]
        rw [q] at a
        exact (eIf_tt a).trans rfl
      · rw [if_neg q]
        have q' : decide ((j : Int) ∈ E) = false := by simpa using q
        rw [q'] at a
        exact (eIf_ff a).trans rfl, rfl⟩
  unfold lGo
  rw [this]
  show some (_, (⟨[.val (.scr ns), .drw, t, .val (.int p), .own (.lst (c.map .int)), .val (spD p c), .own (.lst (H.map .int)), x7, x8, rsS (some x9), x10, x11, .own (.lst (E.map .int)), x13, .no, .no, .no], k, ns⟩ : S)) = _
  rw [hk]
  rfl
theorem gone_safe {E : List Int} (v : Valid p c H) (s : SafeSt p c H) : Valid p c (gone E H) ∧ SafeSt p c (gone E H) := by
  refine SafeSt.release (E := fun i => decide (i ∈ E)) v s (by simp [gone]) fun i hi => ?_
  have h := mem_rg.mp hi
  have hl : i.toNat < H.length := by rw [v.len]; omega
  unfold gone cg
  rw [List.getD_eq_getElem?_getD, List.getD_eq_getElem?_getD, List.getElem?_mapIdx, List.getElem?_eq_getElem hl]
  simp only [Option.map_some, Option.getD_some]
  rw [Int.toNat_of_nonneg h.1]
theorem ev_aug (v : Valid p c H) {fj : M D} {i : Int} {k' : Nat} {f1 : M D} (h0 : fj (ls ns c p H k t x7 x8 x9 x10 x11 x12 x13) = some (.int i, ls ns c p H k' t x7 x8 x9 x10 x11 x12 x13)) (hi : i ∈ rg c.length) : cAugL 6 (fun i j => i + j) fj (eC (.int 1)) (ls ns c p H k t x7 x8 x9 x10 x11 x12 x13) = some (.nx (ls ns c p (inc H i) k' t x7 x8 x9 x10 x11 x12 x13)) := by
  have h := mem_rg.mp hi
  unfold cAugL
  show Option.bind (some (H.map D.int)) _ = _
  rw [Option.bind_some, h0, Option.bind_some]
  show Option.bind (some (H.map D.int)) _ = _
  rw [Option.bind_some]
  simp only
  rw [atI_ints h.1 (by rw [v.len]; exact h.2)]
  simp only
  show Option.bind (some (D.int 1, _)) _ = _
  rw [Option.bind_some]
  show Option.bind (some (H.map D.int)) _ = _
  rw [Option.bind_some]
  simp only
  rw [List.length_map, ixN_int h.1 (by rw [v.len]; exact h.2)]
  show some (Out.nx ⟨[.val (.scr ns), .drw, t, .val (.int p), .own (.lst (c.map .int)), .val (spD p c), .own (.lst ((H.map D.int).set i.toNat (.int (H.getD i.toNat 0 + 1)))), x7, x8, x9, x10, x11, x12, x13, .no, .no, .no], k', ns⟩) = _
  rw [show (H.map D.int).set i.toNat (.int (H.getD i.toNat 0 + 1)) = (inc H i).map D.int by unfold inc cg; rw [List.map_set]]
  rfl
end
end K77


set_option Elab.async false
set_option linter.all false
set_option maxRecDepth 100000
set_option maxHeartbeats 4000000
namespace K77
open PySem DL
section
variable {ns c H : List Int} {p : Int} {k : Nat} {t x7 x8 x9 x10 x11 x12 x13 : Sl}
abbrev lTurn : St1 := (cSeq (cPar [7, 8] (xVal (eL (aCons (eVarB 5) (aCons (eVarB 6) (aNil))) f_good_steps) (xVal (eL (aCons (eVarB 5) (aCons (eVarB 6) (aNil))) f_judge_space) (xNil)))) (cSeq (cIf (bOr (bNot (bObjs tb_CanEnd_Stuck (eVarB 8))) (bTest (eOp gNe (eL (aCons (eAttr 2 0 (eVarB 8)) (aNil)) gSortedA) (eUn gLR1 (eL (aCons (eVarB 4) (aNil)) gLen))))) (cRet (eC (.bl false))) (cNext)) (cSeq (cFor (eItL rg1 (aCons (eL (aCons (eVarB 4) (aNil)) gLen) (aNil))) (bName 9) lCheck) (cSeq (cSetF 11 (eComp (eItL rg1 (aCons (eL (aCons (eVarB 4) (aNil)) gLen) (aNil))) [9] (bName 9) (bTest (eOp gLt (eOp gIx (eVarB 6) (eVarB 9)) (eOp gIx (eVarB 4) (eVarB 9)))) (eVar 9))) (cSeq (cIf (bAnd (bTest (eOp gEq (eVarB 7) (eL (aNil) mkL))) (bAnd (bTest (eOp gNe (eVarB 11) (eL (aNil) mkL))) (bTest (eOp gLt (eL (aCons (eVarB 6) (aNil)) gSumA) (eVarB 3))))) (cRet (eC (.bl false))) (cNext)) (cSeq (cIf (bOr (bTest (eOp gEq (eVarB 7) (eL (aNil) mkL))) (bTest (eOp gEq (eCallE 1 f__law_take (aCons (eC (.int 4)) (aNil))) (eC (.int 0))))) (cSeq (cSetF 12 lEnds) (cSeq (cSetF 6 lGo) (cCont))) (cNext)) (cAugL 6 (fun i j => i + j) (eCallE 1 f__law_pick (aCons (eVarB 7) (aNil))) (eC (.int 1)))))))))
theorem l_turn (hn : ns.length ≤ 63) (hl : 1 ≤ c.length ∧ c.length ≤ 4) (v : Valid p c H) (hs : SafeSt p c H) (hk : Keep x9) : ∃ s2, (lTurn (ls ns c p H k t x7 x8 x9 x10 x11 x12 x13) = some (.nx s2) ∨ lTurn (ls ns c p H k t x7 x8 x9 x10 x11 x12 x13) = some (.ct s2)) ∧
    ∃ H' k' x7 x8 x9 x10 x11 x12, s2 = ls ns c p H' k' t x7 x8 x9 x10 x11 x12 x13 ∧ Valid p c H' ∧ SafeSt p c H' ∧ Keep x9 := by
  have hJ : (J p c H).1 = true := (J_safe v).mpr hs
  let G := (rg c.length).filter (goodB p c H)
  let O : D := .obj 2 [.tup ((J p c H).2.1.map .int)]
  have hO : objJ (J p c H) = O := by unfold objJ; rw [if_pos hJ]
  let s1 := ls ns c p H k t (.val (.lst (G.map .int))) (.val O) x9 x10 x11 x12 x13
  have e1 : cPar [7, 8] (xVal (eL (aCons (eVarB 5) (aCons (eVarB 6) (aNil))) f_good_steps) (xVal (eL (aCons (eVarB 5) (aCons (eVarB 6) (aNil))) f_judge_space) (xNil))) (ls ns c p H k t x7 x8 x9 x10 x11 x12 x13) = some (.nx s1) := by
    unfold cPar xVal
    rw [eL_of (g := f_good_steps) (ds := [spD p c, .lst (H.map .int)]) (s1 := ls ns c p H k t x7 x8 x9 x10 x11 x12 x13) rfl (e_good v hl.2), Option.bind_some]
    simp only
    rw [ev_judge v hl.2, hO]
    rfl
  have hGl : G.length ≤ 4 := by
    have := List.length_filter_le (goodB p c H) (rg c.length)
    rw [rg_len] at this
    show ((rg c.length).filter (goodB p c H)).length ≤ 4
    omega
  have e2 : cIf (bOr (bNot (bObjs tb_CanEnd_Stuck (eVarB 8))) (bTest (eOp gNe (eL (aCons (eAttr 2 0 (eVarB 8)) (aNil)) gSortedA) (eUn gLR1 (eL (aCons (eVarB 4) (aNil)) gLen))))) (cRet (eC (.bl false))) (cNext) s1 = some (.nx s1) := by
    refine (cIf_ff (s1 := s1) ?_).trans rfl
    have b1 : bNot (bObjs tb_CanEnd_Stuck (eVarB 8)) s1 = some (false, s1) := bNot_of (b := true) (bObjs_of (d := O) rfl (by rw [← hO, tru_J, hJ]))
    unfold bOr
    rw [b1, Option.bind_some]
    simp only [if_false, Bool.false_eq_true]
    refine bTest_of (eOp_of (d1 := .lst ((rg c.length).map .int)) (d2 := .lst ((rg c.length).map .int)) (eL_of (ds := [.tup ((J p c H).2.1.map .int)]) rfl (order_sorted hJ)) (eUn_of ev_lenc (by
      unfold gLR1
      simp only
      rw [if_pos (by omega), Int.toNat_natCast, rangeD0]
      rfl)) ?_)
    unfold gNe
    rw [eqD_lst]
    simp
  obtain ⟨s3, e3, y9, y10, hk9, rfl⟩ := l_check (ns := ns) (k := k) (t := t) (x8 := .val O) (x9 := x9) (x10 := x10) (x11 := x11) (x12 := x12) (x13 := x13) v hl.2 hk
  let F := (rg c.length).filter fun i => decide (cg H i < cg c i)
  let s4 := ls ns c p H k t (.val (.lst (G.map .int))) (.val O) y9 y10 (.own (.lst (F.map .int))) x12 x13
  have e4 : cSetF 11 (eComp (eItL rg1 (aCons (eL (aCons (eVarB 4) (aNil)) gLen) (aNil))) [9] (bName 9) (bTest (eOp gLt (eOp gIx (eVarB 6) (eVarB 9)) (eOp gIx (eVarB 4) (eVarB 9)))) (eVar 9)) (ls ns c p H k t (.val (.lst (G.map .int))) (.val O) y9 y10 x11 x12 x13) = some (.nx s4) := cSetF_of (s1 := ls ns c p H k t (.val (.lst (G.map .int))) (.val O) y9 y10 x11 x12 x13) (ev_free v hl.2 hk9)
  have hG0 : bTest (eOp gEq (eVarB 7) (eL (aNil) mkL)) s4 = some (decide (G = []), s4) := bTest_of (eOp_of (d1 := .lst (G.map .int)) (d2 := .lst []) rfl (eL_of rfl mkL0) (by unfold gEq; rw [eqD_nil]; rfl))
  have e5 : cIf (bAnd (bTest (eOp gEq (eVarB 7) (eL (aNil) mkL))) (bAnd (bTest (eOp gNe (eVarB 11) (eL (aNil) mkL))) (bTest (eOp gLt (eL (aCons (eVarB 6) (aNil)) gSumA) (eVarB 3))))) (cRet (eC (.bl false))) (cNext) s4 = some (.nx s4) := by
    refine (cIf_ff (s1 := s4) ?_).trans rfl
    have b2 : bTest (eOp gNe (eVarB 11) (eL (aNil) mkL)) s4 = some (!decide (F = []), s4) := bTest_of (eOp_of (d1 := .lst (F.map .int)) (d2 := .lst []) rfl (eL_of rfl mkL0) (by unfold gNe; rw [eqD_nil]; rfl))
    have b3 : bTest (eOp gLt (eL (aCons (eVarB 6) (aNil)) gSumA) (eVarB 3)) s4 = some (decide (H.sum < p), s4) := bTest_of (eOp_of (d1 := .int H.sum) (d2 := .int p) ev_sum rfl rfl)
    unfold bAnd
    rw [hG0, Option.bind_some]
    by_cases g : G = []
    · simp only [g, decide_true, if_true]
      rw [b2, Option.bind_some]
      by_cases f : F = []
      · simp only [f, decide_true, Bool.not_true, if_false, Bool.false_eq_true]
      · simp only [f, decide_false, Bool.not_false, if_true]
        rw [b3]
        by_cases q : H.sum < p
        · exfalso
          obtain ⟨i, r, ef⟩ := List.exists_cons_of_ne_nil f
          have hi : i ∈ F := by rw [ef]; exact List.mem_cons_self
          have hi := List.mem_filter.mp hi
          obtain ⟨j, hj, h1, h2⟩ := good_exists v hs q ⟨i, hi.1, by simpa using hi.2⟩
          have : j ∈ G := List.mem_filter.mpr ⟨hj, by
            unfold goodB
            rw [(J_safe (v.inc hj h1 q)).mpr h2]
            simp [h1, q]⟩
          rw [g] at this
          cases this
        · simp [q]
    · simp only [g, decide_false, if_false, Bool.false_eq_true]
  obtain ⟨r, ht1, _⟩ := take1 hn k (m := 4) (by omega)
  let s4' := ls ns c p H (k + 1) t (.val (.lst (G.map .int))) (.val O) y9 y10 (.own (.lst (F.map .int))) x12 x13
  have hcond : ∃ (b : Bool) (k' : Nat), bOr (bTest (eOp gEq (eVarB 7) (eL (aNil) mkL))) (bTest (eOp gEq (eCallE 1 f__law_take (aCons (eC (.int 4)) (aNil))) (eC (.int 0)))) s4 = some (b, ls ns c p H k' t (.val (.lst (G.map .int))) (.val O) y9 y10 (.own (.lst (F.map .int))) x12 x13) ∧ (b = false → G ≠ []) := by
    unfold bOr
    rw [hG0, Option.bind_some]
    by_cases g : G = []
    · refine ⟨true, k, ?_, fun z => by cases z⟩
      rw [decide_eq_true g]
      rfl
    · rw [decide_eq_false g]
      simp only [if_false, Bool.false_eq_true]
      exact ⟨decide (r = 0), k + 1, bTest_of (eOp_of (d1 := .int r) (d2 := .int 0) (s1 := s4') (call_take rfl ht1) rfl (by unfold gEq; rw [eqD_int]; rfl)), fun _ => g⟩
  obtain ⟨b, k', hc, hg⟩ := hcond
  unfold lTurn
  rw [cSeq_nx e1, cSeq_nx e2, cSeq_nx e3, cSeq_nx e4, cSeq_nx e5]
  cases b with
  | true =>
    obtain ⟨E, k2, hE⟩ := ev_ends (ns := ns) (c := c) (p := p) (H := H) (k := k') (t := t) (x7 := .val (.lst (G.map .int))) (x8 := .val O) (x9 := y9) (x10 := y10) (x11 := .own (.lst (F.map .int))) (x12 := x12) (x13 := x13) hn v hl.2 hk9
    let s5 := ls ns c p H k2 t (.val (.lst (G.map .int))) (.val O) y9 y10 (.own (.lst (F.map .int))) (.own (.lst (E.map .int))) x13
    let s6 := ls ns c p (gone E H) k2 t (.val (.lst (G.map .int))) (.val O) y9 y10 (.own (.lst (F.map .int))) (.own (.lst (E.map .int))) x13
    obtain ⟨v', hs'⟩ := gone_safe (E := E) v hs
    refine ⟨s6, .inr ?_, gone E H, k2, _, _, _, _, _, _, rfl, v', hs', hk9⟩
    refine cSeq_ct ?_
    rw [cIf_tt hc, cSeq_nx (s1 := s5) (cSetF_of (s1 := ls ns c p H k2 t (.val (.lst (G.map .int))) (.val O) y9 y10 (.own (.lst (F.map .int))) x12 x13) hE), cSeq_nx (s1 := s6) (cSetF_of (s := s5) (s1 := s5) (ev_go v hl.2 hk9))]
    rfl
  | false =>
    have g := hg rfl
    obtain ⟨d, hd, h2⟩ := pick1 hn k' (xs := G.map .int) (by simpa using g)
    obtain ⟨i, hi, rfl⟩ := List.mem_map.mp hd
    have hi := List.mem_filter.mp hi
    have hgb := hi.2
    unfold goodB at hgb
    rw [Bool.and_eq_true, Bool.and_eq_true, decide_eq_true_eq, decide_eq_true_eq] at hgb
    have vi := v.inc hi.1 hgb.1.1 hgb.1.2
    let s5 := ls ns c p H k' t (.val (.lst (G.map .int))) (.val O) y9 y10 (.own (.lst (F.map .int))) x12 x13
    refine ⟨ls ns c p (inc H i) (k' + 1) t (.val (.lst (G.map .int))) (.val O) y9 y10 (.own (.lst (F.map .int))) x12 x13, .inl ?_, inc H i, k' + 1, _, _, _, _, _, _, rfl, vi, (J_safe vi).mp hgb.2, hk9⟩
    rw [cSeq_nx (s1 := s5) ((cIf_ff hc).trans rfl)]
    exact ev_aug (f1 := eC (.int 1)) v (call_pick (s := s5) rfl rfl h2) hi.1
end
end K77


set_option Elab.async false
set_option linter.all false
set_option maxRecDepth 100000
set_option maxHeartbeats 4000000
namespace K77
open PySem DL
/-! ### the law -/
def st0 (ns : List Int) (k : Nat) (x3 x4 : Sl) : S := ⟨[.val (.scr ns), .drw, .no, x3, x4, .no, .no, .no, .no, .no, .no, .no, .no, .no, .no, .no, .no], k, ns⟩
theorem l_draw {ns : List Int} (hn : ns.length ≤ 63) : ∃ (p : Int) (c : List Int) (k : Nat), cPar [3, 4] (xVal (eCallE 1 f__law_take (aCons (eC (.int 10)) (aNil))) (xOwn (eComp (eItL rg1 (aCons (eOp gAdd (eC (.int 1)) (eCallE 1 f__law_take (aCons (eC (.int 4)) (aNil)))) (aNil))) [2] (bName 2) (bYes) (eCallE 1 f__law_take (aCons (eC (.int 5)) (aNil)))) (xNil))) (st0 ns 0 .no .no) = some (.nx (st0 ns k (.val (.int p)) (.own (.lst (c.map .int))))) ∧
    0 ≤ p ∧ p ≤ 9 ∧ 1 ≤ c.length ∧ c.length ≤ 4 ∧ ∀ x ∈ c, 0 ≤ x ∧ x ≤ 4 := by
  obtain ⟨p, h1, p0, p1⟩ := take1 hn 0 (m := 10) (by omega)
  obtain ⟨m, h2, m0, m1⟩ := take1 hn 1 (m := 4) (by omega)
  obtain ⟨ys, k', e, hq, hlen⟩ := compLoop_all (vs := [2]) (b := bName 2) (u := bYes) (f := eCallE 1 f__law_take (aCons (eC (.int 5)) (aNil))) (s0 := fun k => st0 ns k .no .no) (Q := fun y => ∃ i, y = .int i ∧ (0 ≤ i ∧ i ≤ 4)) (items := rangeD 0 (1 + m).toNat) [] 2 (by rw [rangeD_len]; simp; unfold lim; omega) (fun d hd k => by
    obtain ⟨r, h3, r0, r1⟩ := take1 hn k (m := 5) (by omega)
    exact ⟨_, rfl, _, .int r, _, k + 1, rfl, call_take rfl h3, rfl, r, rfl, r0, by omega⟩)
  obtain ⟨c, rfl, hc⟩ := ints_of hq
  rw [rangeD_len, List.length_map] at hlen
  refine ⟨p, c, k', ?_, p0, by omega, by omega, by omega, hc⟩
  have e1 : eCallE 1 f__law_take (aCons (eC (.int 10)) (aNil)) (st0 ns 0 .no .no) = some (.int p, st0 ns 1 .no .no) := call_take rfl h1
  have e2 : eComp (eItL rg1 (aCons (eOp gAdd (eC (.int 1)) (eCallE 1 f__law_take (aCons (eC (.int 4)) (aNil)))) (aNil))) [2] (bName 2) (bYes) (eCallE 1 f__law_take (aCons (eC (.int 5)) (aNil))) (st0 ns 1 .no .no) = some (.lst (c.map .int), st0 ns k' .no .no) := by
    have e3 : eItL rg1 (aCons (eOp gAdd (eC (.int 1)) (eCallE 1 f__law_take (aCons (eC (.int 4)) (aNil)))) (aNil)) (st0 ns 1 .no .no) = some (rangeD 0 (1 + m).toNat, st0 ns 2 .no .no) := by
      unfold eItL
      rw [aCons_of (d := .int (1 + m)) (ds := []) (s1 := st0 ns 2 .no .no) (s2 := st0 ns 2 .no .no) (eOp_of (d1 := .int 1) (d2 := .int m) (s1 := st0 ns 1 .no .no) rfl (call_take rfl h2) rfl) rfl, Option.bind_some]
      show (rg1 [.int (1 + m)]).map _ = _
      unfold rg1
      simp only
      rw [if_pos (by omega)]
      rfl
    unfold eComp
    rw [e3, Option.bind_some]
    show Option.map _ (compLoop _ _ _ _ _ [] (st0 ns 2 .no .no)) = _
    rw [e]
    rfl
  unfold cPar xVal
  rw [e1, Option.bind_some]
  unfold xOwn
  simp only
  rw [e2]
  rfl
theorem run_inc {n : Nat} {w : List Int} {i : Nat} {y : Int} (h : w[i]? = some y) : run n (w.take (i + 1)) = inc (run n (w.take i)) y := by
  rw [List.take_succ, h]
  simp only [Option.toList]
  rw [run_snoc]
theorem dec_inc {h : List Int} {i : Int} (h0 : 0 ≤ i) (hl : i < h.length) : (inc h i).mapIdx (fun j y => if (j : Int) = i then y - 1 else y) = h := by
  apply List.ext_getElem
  · simp [inc]
  · intro j h1 h2
    simp only [List.getElem_mapIdx, inc]
    rw [List.getElem_set]
    by_cases e : (j : Int) = i
    · rw [if_pos e, if_pos (by omega)]
      subst e
      simp [cg, List.getD, h2]
    · rw [if_neg e, if_neg (by omega)]
section
variable {ns c H : List Int} {p : Int} {k : Nat} {t x7 x8 x9 x10 x11 x12 x13 : Sl}
theorem ev_minus (v : Valid p c H) (hl : c.length ≤ 4) {w : List Int} {i : Int} (hw : gIx (.lst (w.map .int)) (.int (-1)) = some (.int i)) : eComp (eItL enLT (aCons (eVarB 6) (aNil))) [15, 16] (bTup 2 (bCons (bName 15) (bCons (bName 16) (bNil)))) (bYes) (eIf (bTest (eOp gEq (eVarB 15) (eOp gIx (eVarB 13) (eUn gNeg (eC (.int 1)))))) (eOp gSub (eVarB 16) (eC (.int 1))) (eVar 16)) (ls ns c p H k t x7 x8 x9 x10 x11 x12 (.val (.lst (w.map .int)))) =
    some (.lst ((H.mapIdx fun j y => if (j : Int) = i then y - 1 else y).map .int), ls ns c p H k t x7 x8 x9 x10 x11 x12 (.val (.lst (w.map .int)))) := by
  refine eComp_enum (s1 := ls ns c p H k t x7 x8 x9 x10 x11 x12 (.val (.lst (w.map .int)))) (e := fun j y => if (j : Int) = i then y - 1 else y) rfl (by have := v.len; unfold lim; omega) fun j y hy => ⟨_, rfl, _, rfl, ⟨[.val (.scr ns), .drw, t, .val (.int p), .own (.lst (c.map .int)), .val (spD p c), .own (.lst (H.map .int)), x7, x8, x9, x10, x11, x12, .val (.lst (w.map .int)), .no, .val (.int j), .val (.int y)], k, ns⟩, ?_, rfl⟩
  have a : bTest (eOp gEq (eVarB 15) (eOp gIx (eVarB 13) (eUn gNeg (eC (.int 1))))) ⟨[.val (.scr ns), .drw, t, .val (.int p), .own (.lst (c.map .int)), .val (spD p c), .own (.lst (H.map .int)), x7, x8, x9, x10, x11, x12, .val (.lst (w.map .int)), .no, .val (.int j), .val (.int y)], k, ns⟩ = some (decide ((j : Int) = i), ⟨[.val (.scr ns), .drw, t, .val (.int p), .own (.lst (c.map .int)), .val (spD p c), .own (.lst (H.map .int)), x7, x8, x9, x10, x11, x12, .val (.lst (w.map .int)), .no, .val (.int j), .val (.int y)], k, ns⟩) :=
    bTest_of (eOp_of (d1 := .int j) (d2 := .int i) rfl (eOp_of (d2 := .int (-1)) rfl rfl hw) (by unfold gEq; rw [eqD_int]; rfl))
  by_cases e : (j : Int) = i
  · rw [decide_eq_true e] at a
    rw [if_pos e]
    exact (eIf_tt a).trans rfl
  · rw [decide_eq_false e] at a
    rw [if_neg e]
    exact (eIf_ff a).trans rfl
end
theorem gix_last {w : List Int} (hw : w ≠ []) : gIx (.lst (w.map .int)) (.int (-1)) = some (.int (w.getLast hw)) := by
  have e : w = w.dropLast ++ [w.getLast hw] := (List.dropLast_concat_getLast hw).symm
  conv => lhs; rw [e]
  rw [List.map_append]
  exact L2.atI_last _ _
theorem cut_last (w : List Int) : cutD (w.map D.int) none (some (-1)) = w.dropLast.map .int := by
  unfold cutD
  rw [HT.sIx_none, List.drop_zero, Nat.sub_zero, List.length_map, List.dropLast_eq_take, List.map_take]
  congr 1
  show (if (-1 : Int) < 0 then ((-1 : Int) + (w.length : Int)).toNat else min ((-1 : Int)).toNat w.length) = w.length - 1
  rw [if_pos (by decide)]
  omega
abbrev LawHolds : Prop := ∀ ns : List Int, ns.length ≤ 63 → ∃ s', d_law ⟨(Sl.val (.scr ns) :: List.replicate 16 .no).set 1 .drw, 0, ns⟩ = some (.rt (.bl true) s')
theorem LL : LawHolds := by
  intro ns hn
  obtain ⟨p, c, k, e1, p0, p9, l1, l4, hc⟩ := l_draw hn
  let Z := List.replicate c.length (0 : Int)
  have vZ : Valid p c Z := zeros_valid p0 hc
  have z0 : ∀ i : Int, cg Z i = 0 := fun i => by
    show (List.replicate c.length (0 : Int)).getD i.toNat 0 = 0
    rw [List.getD_eq_getElem?_getD, List.getElem?_replicate]
    split <;> rfl
  have zs : Z.sum = 0 := by
    have zero : ∀ n : Nat, (List.replicate n (0 : Int)).sum = 0 := fun n => by
      induction n with
      | zero => rfl
      | succ n ih => rw [List.replicate_succ, List.sum_cons, ih]; rfl
    exact zero _
  unfold d_law
  rw [show (⟨(Sl.val (.scr ns) :: List.replicate 16 Sl.no).set 1 .drw, 0, ns⟩ : S) = st0 ns 0 .no .no from rfl, cSeq_nx e1]
  let s2 := ls ns c p Z k .no .no .no .no .no .no .no .no
  have e2 : cPar [5, 6] (xVal (eL (aCons (eVarB 3) (aCons (eVarB 4) (aNil))) (fun ds => (f_Space_init ds).map (.obj 0))) (xOwn (eOp gRep (eL (aCons (eC (.int 0)) (aNil)) mkL) (eL (aCons (eVarB 4) (aNil)) gLen)) (xNil))) (st0 ns k (.val (.int p)) (.own (.lst (c.map .int)))) = some (.nx s2) := by
    have hmk : mkL [D.int 0] = some (.lst [.int 0]) := by
      unfold mkL
      rw [if_pos (by show 1 ≤ lim; unfold lim; omega)]
    unfold cPar xVal
    rw [eL_of (g := fun ds => (f_Space_init ds).map (.obj 0)) (d := spD p c) (ds := [.int p, .lst (c.map .int)]) (s1 := st0 ns k (.val (.int p)) (.own (.lst (c.map .int)))) rfl (by
      show (f_Space_init _).map _ = _
      rw [e_Space_lst ⟨p0, by omega⟩ ⟨l1, l4⟩ fun x hx => by have := hc x hx; omega]
      rfl), Option.bind_some]
    unfold xOwn
    simp only
    rw [eOp_of (g := gRep) (d1 := .lst [.int 0]) (d2 := .int c.length) (d := .lst (Z.map .int)) (s1 := st0 ns k (.val (.int p)) (.own (.lst (c.map .int)))) (s2 := st0 ns k (.val (.int p)) (.own (.lst (c.map .int)))) (eL_of rfl hmk) (eL_of (ds := [.lst (c.map .int)]) rfl (by simp [gLen])) (rep_ints _ (by omega))]
    rfl
  rw [cSeq_nx e2]
  have hZs : SafeSt p c Z ↔ ∀ x ∈ c, x ≤ p := by
    unfold SafeSt
    rw [safe_zero fun i _ => z0 i, zs]
    constructor
    · intro h x hx
      obtain ⟨j, hj, e⟩ := List.getElem_of_mem hx
      have := h (j : Int) (mem_rg.mpr ⟨by omega, by omega⟩)
      rw [z0] at this
      have e2 : cg c (j : Int) = x := by simp [cg, List.getD, hj, e]
      omega
    · intro h i hi
      have := h _ (cg_mem hi)
      rw [z0]
      omega
  have hany : (c.any fun x => decide (p < x)) = !(J p c Z).1 := by
    by_cases g : (J p c Z).1 = true
    · rw [g]
      have := hZs.mp ((J_safe vZ).mp g)
      rw [Bool.not_true, List.any_eq_false]
      intro x hx
      have := this x hx
      simp
      omega
    · have g' : (J p c Z).1 = false := by simpa using g
      rw [g', Bool.not_false, List.any_eq_true]
      apply Classical.byContradiction
      intro z
      refine g ((J_safe vZ).mpr (hZs.mpr fun x hx => ?_))
      apply Classical.byContradiction
      intro y
      exact z ⟨x, hx, by simp; omega⟩
  have hjn : ∀ {H t x7 x8 x9 x10 x11 x12 x13 k}, Valid p c H → bNot (bObjs tb_CanEnd_Stuck (eL (aCons (eVarB 5) (aCons (eVarB 6) (aNil))) f_judge_space)) (ls ns c p H k t x7 x8 x9 x10 x11 x12 x13) = some (!(J p c H).1, ls ns c p H k t x7 x8 x9 x10 x11 x12 x13) := fun v => bNot_of (bObjs_of (ev_judge v l4) (tru_J _))
  have e3 : cIf (bTest (eOp gNe (eL (aCons (eComp (eIt asSeq (eVarB 4)) [14] (bName 14) (bYes) (eOp gGt (eVarB 14) (eVarB 3))) (aNil)) gAny) (eB (bNot (bObjs tb_CanEnd_Stuck (eL (aCons (eVarB 5) (aCons (eVarB 6) (aNil))) f_judge_space)))))) (cRet (eC (.bl false))) (cNext) s2 = some (.nx s2) := by
    have a1 : eComp (eIt asSeq (eVarB 4)) [14] (bName 14) (bYes) (eOp gGt (eVarB 14) (eVarB 3)) s2 = some (.lst (c.map fun x => .bl (decide (p < x))), s2) :=
      eComp_map (s1 := s2) (e := fun x => .bl (decide (p < x))) rfl (by unfold lim; omega) fun i hi => ⟨_, rfl, ⟨[.val (.scr ns), .drw, .no, .val (.int p), .own (.lst (c.map .int)), .val (spD p c), .own (.lst (Z.map .int)), .no, .no, .no, .no, .no, .no, .no, .val (.int i), .no, .no], k, ns⟩, rfl, rfl⟩
    refine (cIf_ff (s1 := s2) (bTest_of (eOp_of (d1 := .bl (!(J p c Z).1)) (d2 := .bl (!(J p c Z).1)) (eL_of (aCons_of a1 rfl) (by rw [any_bl, hany])) (by
      unfold eB
      rw [hjn vZ]
      rfl) (by
      unfold gNe
      rw [eqD_bl]
      simp)))).trans rfl
  rw [cSeq_nx e3]
  by_cases g : (J p c Z).1 = true
  · rw [cSeq_nx (s1 := s2) ((cIf_ff (s1 := s2) (by rw [hjn vZ, g]; rfl)).trans rfl)]
    have hcp := hZs.mp ((J_safe vZ).mp g)
    obtain ⟨s', h5, H, k', t, x7, x8, x9, x10, x11, x12, rfl, v, hs, hk⟩ := cFor_inv (P := fun _ s => ∃ H k t x7 x8 x9 x10 x11 x12, s = ls ns c p H k t x7 x8 x9 x10 x11 x12 .no ∧ Valid p c H ∧ SafeSt p c H ∧ Keep x9) (items := rangeD 0 14) (s := s2) (s1 := s2) (it := eItL rg1 (aCons (eC (.int 14)) (aNil))) (b := bName 2) (body := lTurn) rfl ⟨Z, k, _, _, _, _, _, _, _, rfl, vZ, (J_safe vZ).mp g, rfl⟩ (fun i d s hi ⟨H, k, t, x7, x8, x9, x10, x11, x12, e, v, hs, hk⟩ => by
      subst e
      obtain ⟨s2, h, H', k', y7, y8, y9, y10, y11, y12, e, v', hs', hk'⟩ := l_turn (t := .val d) (x7 := x7) (x8 := x8) (x10 := x10) (x11 := x11) (x12 := x12) (x13 := .no) (k := k) hn ⟨l1, l4⟩ v hs hk
      exact ⟨ls ns c p H k (.val d) x7 x8 x9 x10 x11 x12 .no, rfl, s2, h, H', k', _, _, _, _, _, _, _, e, v', hs', hk'⟩)
    rw [cSeq_nx h5]
    obtain ⟨r, hr, fr⟩ := e_first ⟨l1, l4⟩ hc p0
    let s6 := fun (H : List Int) (x7 x9 : Sl) => ls ns c p H k' t x7 x8 x9 x10 x11 x12 (.val r)
    rw [cSeq_nx (s1 := s6 H x7 x9) (cSet_of (s := ls ns c p H k' t x7 x8 x9 x10 x11 x12 .no) (s1 := ls ns c p H k' t x7 x8 x9 x10 x11 x12 .no) (eL_of (ds := [spD p c]) rfl hr))]
    have hen : (isNonD r) = decide (enough c ≤ p) := by
      rcases fr with ⟨rfl, hall⟩ | ⟨w, rfl, po, hu⟩
      · refine (decide_eq_true ?_).symm
        apply Classical.byContradiction
        intro z
        obtain ⟨h, vh, hh⟩ := not_enough p0 (fun x hx => (hc x hx).1) (Int.not_le.mp z)
        exact hh (hall h vh)
      · refine (decide_eq_false fun z => hu ?_).symm
        have := po.val w.length (Nat.le_refl _)
        rw [List.take_length] at this
        exact enough_safe this z
    have hgis : eOp gIs (eVarB 13) (eC .non) (s6 H x7 x9) = some (.bl (isNonD r), s6 H x7 x9) := by
      have e13 : eVarB 13 (s6 H x7 x9) = some (r, s6 H x7 x9) := rfl
      exact eOp_of e13 rfl rfl
    rw [cSeq_nx (s1 := s6 H x7 x9) ((cIf_ff (s1 := s6 H x7 x9) (bTest_of (eOp_of (d2 := .bl (decide (enough c ≤ p))) hgis (eOp_of (d1 := .int p) (d2 := .int (enough c)) rfl (eL_of (ds := [.lst (c.map .int)]) rfl (e_enough ⟨l1, l4⟩ fun x hx => by have := hc x hx; omega)) rfl) (by
      unfold gNe
      rw [hen, eqD_bl]
      simp)))).trans rfl)]
    rcases fr with ⟨rfl, hall⟩ | ⟨w, rfl, po, hu⟩
    · rw [cSeq_rt (s1 := s6 H x7 x9) (d := .bl true) ((cIf_tt (s1 := s6 H x7 x9) (bTest_of hgis)).trans rfl)]
      exact ⟨_, rfl⟩
    · rw [cSeq_nx (s1 := s6 H x7 x9) ((cIf_ff (s1 := s6 H x7 x9) (bTest_of hgis)).trans rfl)]
      have hw : w ≠ [] := by
        rintro rfl
        exact hu ((J_safe vZ).mp g)
      have hwl : 0 < w.length := List.length_pos_iff.mpr hw
      rw [cSeq_nx (s1 := s6 Z x7 x9) (cSetF_of (s := s6 H x7 x9) (s1 := s6 H x7 x9) (d := .lst (Z.map .int)) (eOp_of (d1 := .lst [.int 0]) (d2 := .int c.length) (eL_of rfl (by
        unfold mkL
        rw [if_pos (by show 1 ≤ lim; unfold lim; omega)])) ev_lenc (rep_ints _ (by omega))))]
      obtain ⟨s', h7, y9, rfl⟩ := cFor_inv (P := fun n s => ∃ y9, s = s6 (run c.length (w.take n)) x7 y9) (items := w.dropLast.map .int) (s := s6 Z x7 x9) (s1 := s6 Z x7 x9) (it := eIt asSeq (eSlice asLst .lst (eVarB 13) (oNone) (oSome (eUn gNeg (eC (.int 1)))))) (b := bName 9) (body := (cSeq (cAugL 6 (fun i j => i + j) (eVar 9) (eC (.int 1))) (cIf (bNot (bObjs tb_CanEnd_Stuck (eL (aCons (eVarB 5) (aCons (eVarB 6) (aNil))) f_judge_space))) (cRet (eC (.bl false))) (cNext)))) (by
        show Option.bind (some (D.lst (cutD (w.map D.int) none (some (-1))), s6 Z x7 x9)) _ = _
        rw [cut_last]
        rfl) ⟨x9, rfl⟩ (fun i d s hi ⟨y9, e⟩ => by
        subst e
        obtain ⟨y, hy, rfl⟩ := get_ints hi
        have hil : i < w.length - 1 := by
          have := (List.getElem?_eq_some_iff.mp hy).1
          simpa using this
        have hy' : w[i]? = some y := by
          rw [List.dropLast_eq_take, List.getElem?_take, if_pos hil] at hy
          exact hy
        have v1 := po.val i (by omega)
        have v2 := po.val (i + 1) (by omega)
        have hs2 := po.safe (i + 1) (by omega)
        have er := run_inc (n := c.length) hy'
        rw [er] at v2 hs2
        refine ⟨s6 (run c.length (w.take i)) x7 (.val (.int y)), rfl, s6 (run c.length (w.take (i + 1))) x7 (.val (.int y)), .inl ?_, _, rfl⟩
        rw [er]
        rw [cSeq_nx (s1 := s6 (inc (run c.length (w.take i)) y) x7 (.val (.int y))) (ev_aug (f1 := eC (.int 1)) v1 rfl (po.mem y (List.mem_of_getElem? hy')))]
        rw [cIf_ff (s1 := s6 (inc (run c.length (w.take i)) y) x7 (.val (.int y))) (by rw [hjn v2, (J_safe v2).mpr hs2]; rfl)]
        rfl)
      rw [cSeq_nx h7]
      have edl : (w.dropLast.map D.int).length = w.length - 1 := by simp
      rw [edl]
      let L := w.getLast hw
      let H1 := run c.length (w.take (w.length - 1))
      have hLm : L ∈ rg c.length := po.mem _ (List.getLast_mem hw)
      have v1 : Valid p c H1 := po.val (w.length - 1) (by omega)
      have er : run c.length w = inc H1 L := by
        have e := List.dropLast_concat_getLast hw
        rw [List.dropLast_eq_take] at e
        conv => lhs; rw [← e]
        exact run_snoc _ _ _
      have v2 : Valid p c (inc H1 L) := by
        have := po.val w.length (Nat.le_refl _)
        rw [List.take_length, er] at this
        exact this
      have hu2 : ¬ SafeSt p c (inc H1 L) := by rw [er] at hu; exact hu
      have hJ2 : (J p c (inc H1 L)).1 = false := by
        cases q : (J p c (inc H1 L)).1 with
        | false => rfl
        | true => exact absurd ((J_safe v2).mp q) hu2
      have hix : ∀ {H x7 x9}, eOp gIx (eVarB 13) (eUn gNeg (eC (.int 1))) (ls ns c p H k' t x7 x8 x9 x10 x11 x12 (.val (.lst (w.map .int)))) = some (.int L, ls ns c p H k' t x7 x8 x9 x10 x11 x12 (.val (.lst (w.map .int)))) := eOp_of (d1 := .lst (w.map .int)) (d2 := .int (-1)) rfl rfl (gix_last hw)
      rw [cSeq_nx (s1 := s6 (inc H1 L) x7 y9) (ev_aug (f1 := eC (.int 1)) v1 hix hLm)]
      let O : D := .obj 1 [.tup ((J p c (inc H1 L)).2.2.map .int)]
      have hO : objJ (J p c (inc H1 L)) = O := by unfold objJ; rw [hJ2]; rfl
      let s8 := s6 (inc H1 L) (.val O) y9
      rw [cSeq_nx (s1 := s8) (cSet_of (s := s6 (inc H1 L) x7 y9) (s1 := s6 (inc H1 L) x7 y9) (by rw [← hO]; exact ev_judge v2 l4))]
      have f1 : eB (bNot (bObjs tb_CanEnd_Stuck (eVarB 7))) s8 = some (.bl true, s8) := by
        unfold eB
        rw [bNot_of (b := false) (bObjs_of (d := O) (s1 := s8) rfl (by rw [← hO, tru_J, hJ2]))]
        rfl
      have f2 : eMeth (OfCls 1 f_Stuck_shows) (eVarB 7) (aCons (eVarB 5) (aCons (eVarB 6) (aNil))) s8 = some (.bl true, s8) := by
        show Option.map _ (f_Stuck_shows [O, spD p c, .lst ((inc H1 L).map .int)]) = _
        rw [stuck_shows v2 l4 hJ2]
        rfl
      have f3 : eOp (inD true) (eOp gIx (eVarB 13) (eUn gNeg (eC (.int 1)))) (eL (aCons (eVarB 5) (aCons (eComp (eItL enLT (aCons (eVarB 6) (aNil))) [15, 16] (bTup 2 (bCons (bName 15) (bCons (bName 16) (bNil)))) (bYes) (eIf (bTest (eOp gEq (eVarB 15) (eOp gIx (eVarB 13) (eUn gNeg (eC (.int 1)))))) (eOp gSub (eVarB 16) (eC (.int 1))) (eVar 16))) (aNil))) f_good_steps) s8 = some (.bl true, s8) := by
        have hm := ev_minus (ns := ns) (k := k') (t := t) (x7 := .val O) (x8 := x8) (x9 := y9) (x10 := x10) (x11 := x11) (x12 := x12) v2 l4 (w := w) (gix_last hw)
        have hL := mem_rg.mp hLm
        rw [dec_inc hL.1 (by rw [v1.len]; exact hL.2)] at hm
        refine eOp_of hix (eL_of (s1 := s8) (aCons_of (s1 := s8) rfl (aCons_of hm rfl)) (e_good v1 l4)) ?_
        rw [inD_ints]
        have : L ∉ (rg c.length).filter (goodB p c H1) := fun z => by
          have z := (List.mem_filter.mp z).2
          unfold goodB at z
          rw [hJ2] at z
          simp at z
        simp [this]
      refine ⟨s8, ?_⟩
      refine cRet_of ?_
      unfold eAnd
      rw [f1, Option.bind_some]
      simp only
      rw [f2, Option.bind_some]
      simp only
      exact f3
  · have g' : (J p c Z).1 = false := by simpa using g
    obtain ⟨r, hr, fr⟩ := e_first ⟨l1, l4⟩ hc p0
    have er : r = .lst [] := by
      rcases fr with ⟨rfl, hall⟩ | ⟨w, rfl, po, hu⟩
      · exact absurd ((J_safe vZ).mpr (hall Z vZ)) g
      · have : w = [] := by
          apply Classical.byContradiction
          intro hw
          have := po.safe 0 (List.length_pos_iff.mpr hw)
          exact g ((J_safe vZ).mpr this)
        rw [this]
        rfl
    subst er
    refine ⟨s2, ?_⟩
    rw [cSeq_rt (s1 := s2) (d := .bl true) ((cIf_tt (s1 := s2) (by rw [hjn vZ, g']; rfl)).trans (cRet_of (eOp_of (d1 := .lst []) (d2 := .lst []) (eL_of (ds := [spD p c]) rfl hr) (eL_of rfl mkL0) rfl)))]
end K77


set_option Elab.async false
set_option linter.all false
set_option maxRecDepth 100000
set_option maxHeartbeats 4000000
namespace K77
open PySem L2 DL
open Evl (Ex)

/-! ### the top -/
theorem all_mk (LL : LawHolds) {l : PySem.W.OpenLaw} {w : World} {K : PySem.W.Frag} {h : Heap} {mg : Str → Option Value} {fa : Addr} (X : K.In h) (G : h.Ns mainGlobals mg) (hfa : mg "law" = some (.ref fa)) {C_Space C_Stuck C_CanEnd a__law_number a__law_take a_is_integer a_is_number a_is_row a_Space_init a_CanEnd_bool a_Stuck_bool a_check_held a_Stuck_init a_CanEnd_init a_judge_space a_first_stuck a_good_steps a__law_pick a_enough_places a_Stuck_shows a_law : Addr} {od__law_number an__law_number od__law_take an__law_take od_is_integer an_is_integer od_is_number an_is_number od_is_row an_is_row od_Space_init an_Space_init od_CanEnd_bool an_CanEnd_bool od_Stuck_bool an_Stuck_bool od_check_held an_check_held od_Stuck_init an_Stuck_init od_CanEnd_init an_CanEnd_init od_judge_space an_judge_space od_first_stuck an_first_stuck od_good_steps an_good_steps od__law_pick an__law_pick od_enough_places an_enough_places od_Stuck_shows an_Stuck_shows od_law an_law : Option Addr} {sl__law_number sl__law_take sl_is_integer sl_is_number sl_is_row sl_Space_init sl_CanEnd_bool sl_Stuck_bool sl_check_held sl_Stuck_init sl_CanEnd_init sl_judge_space sl_first_stuck sl_good_steps sl__law_pick sl_enough_places sl_Stuck_shows sl_law : Array (Option Value)} {oc__law_number kV__law_number dc__law_number pm__law_number cd__law_number ct__law_number oc__law_take kV__law_take dc__law_take pm__law_take cd__law_take ct__law_take oc_is_integer kV_is_integer dc_is_integer pm_is_integer cd_is_integer ct_is_integer oc_is_number kV_is_number dc_is_number pm_is_number cd_is_number ct_is_number oc_is_row kV_is_row dc_is_row pm_is_row cd_is_row ct_is_row oc_Space_init kV_Space_init dc_Space_init pm_Space_init cd_Space_init ct_Space_init oc_CanEnd_bool kV_CanEnd_bool dc_CanEnd_bool pm_CanEnd_bool cd_CanEnd_bool ct_CanEnd_bool oc_Stuck_bool kV_Stuck_bool dc_Stuck_bool pm_Stuck_bool cd_Stuck_bool ct_Stuck_bool oc_check_held kV_check_held dc_check_held pm_check_held cd_check_held ct_check_held oc_Stuck_init kV_Stuck_init dc_Stuck_init pm_Stuck_init cd_Stuck_init ct_Stuck_init oc_CanEnd_init kV_CanEnd_init dc_CanEnd_init pm_CanEnd_init cd_CanEnd_init ct_CanEnd_init oc_judge_space kV_judge_space dc_judge_space pm_judge_space cd_judge_space ct_judge_space oc_first_stuck kV_first_stuck dc_first_stuck pm_first_stuck cd_first_stuck ct_first_stuck oc_good_steps kV_good_steps dc_good_steps pm_good_steps cd_good_steps ct_good_steps oc__law_pick kV__law_pick dc__law_pick pm__law_pick cd__law_pick ct__law_pick oc_enough_places kV_enough_places dc_enough_places pm_enough_places cd_enough_places ct_enough_places oc_Stuck_shows kV_Stuck_shows dc_Stuck_shows pm_Stuck_shows cd_Stuck_shows ct_Stuck_shows oc_law kV_law dc_law pm_law cd_law ct_law : Value}
  (z_all : PySem.W.nsIn K mainGlobals "all" = some none)
  (z_any : PySem.W.nsIn K mainGlobals "any" = some none)
  (z_bool : PySem.W.nsIn K mainGlobals "bool" = some none)
  (z_enumerate : PySem.W.nsIn K mainGlobals "enumerate" = some none)
  (z_int : PySem.W.nsIn K mainGlobals "int" = some none)
  (z_isinstance : PySem.W.nsIn K mainGlobals "isinstance" = some none)
  (z_len : PySem.W.nsIn K mainGlobals "len" = some none)
  (z_list : PySem.W.nsIn K mainGlobals "list" = some none)
  (z_range : PySem.W.nsIn K mainGlobals "range" = some none)
  (z_set : PySem.W.nsIn K mainGlobals "set" = some none)
  (z_sorted : PySem.W.nsIn K mainGlobals "sorted" = some none)
  (z_sum : PySem.W.nsIn K mainGlobals "sum" = some none)
  (z_tuple : PySem.W.nsIn K mainGlobals "tuple" = some none)
  (aC_Space : PySem.W.nsIn K mainGlobals "Space" = some (some (.ref C_Space)))
  (pg_Space : PySem.W.plainGet K C_Space Str.empty = true)
  (hd_Space : PySem.W.hasDictIn K C_Space = true)
  (po_Space : PySem.W.plainOver K C_Space = true)
  (sa_Space : PySem.W.findIn K (.ref C_Space) "__setattr__" = some (some (.builtin "object.__setattr__")))
  (n_Space_places : PySem.W.findIn K (.ref C_Space) "places" = some none)
  (n_Space_claims : PySem.W.findIn K (.ref C_Space) "claims" = some none)
  (aC_Stuck : PySem.W.nsIn K mainGlobals "Stuck" = some (some (.ref C_Stuck)))
  (pg_Stuck : PySem.W.plainGet K C_Stuck Str.empty = true)
  (hd_Stuck : PySem.W.hasDictIn K C_Stuck = true)
  (po_Stuck : PySem.W.plainOver K C_Stuck = true)
  (sa_Stuck : PySem.W.findIn K (.ref C_Stuck) "__setattr__" = some (some (.builtin "object.__setattr__")))
  (n_Stuck_numbers : PySem.W.findIn K (.ref C_Stuck) "numbers" = some none)
  (aC_CanEnd : PySem.W.nsIn K mainGlobals "CanEnd" = some (some (.ref C_CanEnd)))
  (pg_CanEnd : PySem.W.plainGet K C_CanEnd Str.empty = true)
  (hd_CanEnd : PySem.W.hasDictIn K C_CanEnd = true)
  (po_CanEnd : PySem.W.plainOver K C_CanEnd = true)
  (sa_CanEnd : PySem.W.findIn K (.ref C_CanEnd) "__setattr__" = some (some (.builtin "object.__setattr__")))
  (n_CanEnd_order : PySem.W.findIn K (.ref C_CanEnd) "order" = some none)
  (ha_Space : PySem.W.findIn K (.ref C_Space) "__class__" = some (some (.builtin "object.__class__")))
  (hn_Space : PySem.W.specialIn K (.builtin "object.__class__") "__get__" = some (some (.builtin "getset_descriptor.__get__")))
  (ht_Space : PySem.W.takesIn K (.builtin "object.__class__") = some true)
  (hm_Space : PySem.W.mroIn K C_Space (.type "object") = some true)
  (p__law_number : PySem.W.nsIn K mainGlobals "_law_number" = some (some (.ref a__law_number)))
  (k__law_number : K.lookup a__law_number = some ⟨oc__law_number, od__law_number, .func (PySem.W.fnOf "_law_number" "_law_number" (C8.fnArgs s__law_number) (C8.fnBody s__law_number) (C8.fnScope s__law_number) .none kV__law_number dc__law_number pm__law_number an__law_number cd__law_number ct__law_number), sl__law_number⟩)
  (co__law_number : PySem.W.codeIn K cd__law_number "_law_number" = true)
  (kp__law_number : PySem.W.keepIn K (.ref a__law_number) = true)
  (p__law_take : PySem.W.nsIn K mainGlobals "_law_take" = some (some (.ref a__law_take)))
  (k__law_take : K.lookup a__law_take = some ⟨oc__law_take, od__law_take, .func (PySem.W.fnOf "_law_take" "_law_take" (C8.fnArgs s__law_take) (C8.fnBody s__law_take) (C8.fnScope s__law_take) .none kV__law_take dc__law_take pm__law_take an__law_take cd__law_take ct__law_take), sl__law_take⟩)
  (co__law_take : PySem.W.codeIn K cd__law_take "_law_take" = true)
  (kp__law_take : PySem.W.keepIn K (.ref a__law_take) = true)
  (p_is_integer : PySem.W.nsIn K mainGlobals "is_integer" = some (some (.ref a_is_integer)))
  (k_is_integer : K.lookup a_is_integer = some ⟨oc_is_integer, od_is_integer, .func (PySem.W.fnOf "is_integer" "is_integer" (C8.fnArgs s_is_integer) (C8.fnBody s_is_integer) (C8.fnScope s_is_integer) .none kV_is_integer dc_is_integer pm_is_integer an_is_integer cd_is_integer ct_is_integer), sl_is_integer⟩)
  (co_is_integer : PySem.W.codeIn K cd_is_integer "is_integer" = true)
  (kp_is_integer : PySem.W.keepIn K (.ref a_is_integer) = true)
  (p_is_number : PySem.W.nsIn K mainGlobals "is_number" = some (some (.ref a_is_number)))
  (k_is_number : K.lookup a_is_number = some ⟨oc_is_number, od_is_number, .func (PySem.W.fnOf "is_number" "is_number" (C8.fnArgs s_is_number) (C8.fnBody s_is_number) (C8.fnScope s_is_number) .none kV_is_number dc_is_number pm_is_number an_is_number cd_is_number ct_is_number), sl_is_number⟩)
  (co_is_number : PySem.W.codeIn K cd_is_number "is_number" = true)
  (kp_is_number : PySem.W.keepIn K (.ref a_is_number) = true)
  (p_is_row : PySem.W.nsIn K mainGlobals "is_row" = some (some (.ref a_is_row)))
  (k_is_row : K.lookup a_is_row = some ⟨oc_is_row, od_is_row, .func (PySem.W.fnOf "is_row" "is_row" (C8.fnArgs s_is_row) (C8.fnBody s_is_row) (C8.fnScope s_is_row) .none kV_is_row dc_is_row pm_is_row an_is_row cd_is_row ct_is_row), sl_is_row⟩)
  (co_is_row : PySem.W.codeIn K cd_is_row "is_row" = true)
  (kp_is_row : PySem.W.keepIn K (.ref a_is_row) = true)
  (p_Space_init : PySem.W.findIn K (.ref C_Space) "__init__" = some (some (.ref a_Space_init)))
  (i_Space_init : PySem.W.isFn K (.ref a_Space_init) = true)
  (k_Space_init : K.lookup a_Space_init = some ⟨oc_Space_init, od_Space_init, .func (PySem.W.fnOf "__init__" "Space.__init__" (C8.fnArgs s_Space_init) (C8.fnBody s_Space_init) (C8.fnScope s_Space_init) .none kV_Space_init dc_Space_init pm_Space_init an_Space_init cd_Space_init ct_Space_init), sl_Space_init⟩)
  (co_Space_init : PySem.W.codeIn K cd_Space_init "Space.__init__" = true)
  (kp_Space_init : PySem.W.keepIn K (.ref a_Space_init) = true)
  (mk_Space : PySem.W.makesIn K C_Space = true)
  (kc_Space : PySem.W.keepIn K (.ref C_Space) = true)
  (p_CanEnd_bool : PySem.W.findIn K (.ref C_CanEnd) "__bool__" = some (some (.ref a_CanEnd_bool)))
  (i_CanEnd_bool : PySem.W.isFn K (.ref a_CanEnd_bool) = true)
  (k_CanEnd_bool : K.lookup a_CanEnd_bool = some ⟨oc_CanEnd_bool, od_CanEnd_bool, .func (PySem.W.fnOf "__bool__" "CanEnd.__bool__" (C8.fnArgs s_CanEnd_bool) (C8.fnBody s_CanEnd_bool) (C8.fnScope s_CanEnd_bool) .none kV_CanEnd_bool dc_CanEnd_bool pm_CanEnd_bool an_CanEnd_bool cd_CanEnd_bool ct_CanEnd_bool), sl_CanEnd_bool⟩)
  (co_CanEnd_bool : PySem.W.codeIn K cd_CanEnd_bool "CanEnd.__bool__" = true)
  (kp_CanEnd_bool : PySem.W.keepIn K (.ref a_CanEnd_bool) = true)
  (p_Stuck_bool : PySem.W.findIn K (.ref C_Stuck) "__bool__" = some (some (.ref a_Stuck_bool)))
  (i_Stuck_bool : PySem.W.isFn K (.ref a_Stuck_bool) = true)
  (k_Stuck_bool : K.lookup a_Stuck_bool = some ⟨oc_Stuck_bool, od_Stuck_bool, .func (PySem.W.fnOf "__bool__" "Stuck.__bool__" (C8.fnArgs s_Stuck_bool) (C8.fnBody s_Stuck_bool) (C8.fnScope s_Stuck_bool) .none kV_Stuck_bool dc_Stuck_bool pm_Stuck_bool an_Stuck_bool cd_Stuck_bool ct_Stuck_bool), sl_Stuck_bool⟩)
  (co_Stuck_bool : PySem.W.codeIn K cd_Stuck_bool "Stuck.__bool__" = true)
  (kp_Stuck_bool : PySem.W.keepIn K (.ref a_Stuck_bool) = true)
  (p_check_held : PySem.W.nsIn K mainGlobals "check_held" = some (some (.ref a_check_held)))
  (k_check_held : K.lookup a_check_held = some ⟨oc_check_held, od_check_held, .func (PySem.W.fnOf "check_held" "check_held" (C8.fnArgs s_check_held) (C8.fnBody s_check_held) (C8.fnScope s_check_held) .none kV_check_held dc_check_held pm_check_held an_check_held cd_check_held ct_check_held), sl_check_held⟩)
  (co_check_held : PySem.W.codeIn K cd_check_held "check_held" = true)
  (kp_check_held : PySem.W.keepIn K (.ref a_check_held) = true)
  (p_Stuck_init : PySem.W.findIn K (.ref C_Stuck) "__init__" = some (some (.ref a_Stuck_init)))
  (i_Stuck_init : PySem.W.isFn K (.ref a_Stuck_init) = true)
  (k_Stuck_init : K.lookup a_Stuck_init = some ⟨oc_Stuck_init, od_Stuck_init, .func (PySem.W.fnOf "__init__" "Stuck.__init__" (C8.fnArgs s_Stuck_init) (C8.fnBody s_Stuck_init) (C8.fnScope s_Stuck_init) .none kV_Stuck_init dc_Stuck_init pm_Stuck_init an_Stuck_init cd_Stuck_init ct_Stuck_init), sl_Stuck_init⟩)
  (co_Stuck_init : PySem.W.codeIn K cd_Stuck_init "Stuck.__init__" = true)
  (kp_Stuck_init : PySem.W.keepIn K (.ref a_Stuck_init) = true)
  (mk_Stuck : PySem.W.makesIn K C_Stuck = true)
  (kc_Stuck : PySem.W.keepIn K (.ref C_Stuck) = true)
  (p_CanEnd_init : PySem.W.findIn K (.ref C_CanEnd) "__init__" = some (some (.ref a_CanEnd_init)))
  (i_CanEnd_init : PySem.W.isFn K (.ref a_CanEnd_init) = true)
  (k_CanEnd_init : K.lookup a_CanEnd_init = some ⟨oc_CanEnd_init, od_CanEnd_init, .func (PySem.W.fnOf "__init__" "CanEnd.__init__" (C8.fnArgs s_CanEnd_init) (C8.fnBody s_CanEnd_init) (C8.fnScope s_CanEnd_init) .none kV_CanEnd_init dc_CanEnd_init pm_CanEnd_init an_CanEnd_init cd_CanEnd_init ct_CanEnd_init), sl_CanEnd_init⟩)
  (co_CanEnd_init : PySem.W.codeIn K cd_CanEnd_init "CanEnd.__init__" = true)
  (kp_CanEnd_init : PySem.W.keepIn K (.ref a_CanEnd_init) = true)
  (mk_CanEnd : PySem.W.makesIn K C_CanEnd = true)
  (kc_CanEnd : PySem.W.keepIn K (.ref C_CanEnd) = true)
  (p_judge_space : PySem.W.nsIn K mainGlobals "judge_space" = some (some (.ref a_judge_space)))
  (k_judge_space : K.lookup a_judge_space = some ⟨oc_judge_space, od_judge_space, .func (PySem.W.fnOf "judge_space" "judge_space" (C8.fnArgs s_judge_space) (C8.fnBody s_judge_space) (C8.fnScope s_judge_space) .none kV_judge_space dc_judge_space pm_judge_space an_judge_space cd_judge_space ct_judge_space), sl_judge_space⟩)
  (co_judge_space : PySem.W.codeIn K cd_judge_space "judge_space" = true)
  (kp_judge_space : PySem.W.keepIn K (.ref a_judge_space) = true)
  (p_first_stuck : PySem.W.nsIn K mainGlobals "first_stuck" = some (some (.ref a_first_stuck)))
  (k_first_stuck : K.lookup a_first_stuck = some ⟨oc_first_stuck, od_first_stuck, .func (PySem.W.fnOf "first_stuck" "first_stuck" (C8.fnArgs s_first_stuck) (C8.fnBody s_first_stuck) (C8.fnScope s_first_stuck) .none kV_first_stuck dc_first_stuck pm_first_stuck an_first_stuck cd_first_stuck ct_first_stuck), sl_first_stuck⟩)
  (co_first_stuck : PySem.W.codeIn K cd_first_stuck "first_stuck" = true)
  (kp_first_stuck : PySem.W.keepIn K (.ref a_first_stuck) = true)
  (p_good_steps : PySem.W.nsIn K mainGlobals "good_steps" = some (some (.ref a_good_steps)))
  (k_good_steps : K.lookup a_good_steps = some ⟨oc_good_steps, od_good_steps, .func (PySem.W.fnOf "good_steps" "good_steps" (C8.fnArgs s_good_steps) (C8.fnBody s_good_steps) (C8.fnScope s_good_steps) .none kV_good_steps dc_good_steps pm_good_steps an_good_steps cd_good_steps ct_good_steps), sl_good_steps⟩)
  (co_good_steps : PySem.W.codeIn K cd_good_steps "good_steps" = true)
  (kp_good_steps : PySem.W.keepIn K (.ref a_good_steps) = true)
  (p__law_pick : PySem.W.nsIn K mainGlobals "_law_pick" = some (some (.ref a__law_pick)))
  (k__law_pick : K.lookup a__law_pick = some ⟨oc__law_pick, od__law_pick, .func (PySem.W.fnOf "_law_pick" "_law_pick" (C8.fnArgs s__law_pick) (C8.fnBody s__law_pick) (C8.fnScope s__law_pick) .none kV__law_pick dc__law_pick pm__law_pick an__law_pick cd__law_pick ct__law_pick), sl__law_pick⟩)
  (co__law_pick : PySem.W.codeIn K cd__law_pick "_law_pick" = true)
  (kp__law_pick : PySem.W.keepIn K (.ref a__law_pick) = true)
  (p_enough_places : PySem.W.nsIn K mainGlobals "enough_places" = some (some (.ref a_enough_places)))
  (k_enough_places : K.lookup a_enough_places = some ⟨oc_enough_places, od_enough_places, .func (PySem.W.fnOf "enough_places" "enough_places" (C8.fnArgs s_enough_places) (C8.fnBody s_enough_places) (C8.fnScope s_enough_places) .none kV_enough_places dc_enough_places pm_enough_places an_enough_places cd_enough_places ct_enough_places), sl_enough_places⟩)
  (co_enough_places : PySem.W.codeIn K cd_enough_places "enough_places" = true)
  (kp_enough_places : PySem.W.keepIn K (.ref a_enough_places) = true)
  (p_Stuck_shows : PySem.W.findIn K (.ref C_Stuck) "shows" = some (some (.ref a_Stuck_shows)))
  (i_Stuck_shows : PySem.W.isFn K (.ref a_Stuck_shows) = true)
  (k_Stuck_shows : K.lookup a_Stuck_shows = some ⟨oc_Stuck_shows, od_Stuck_shows, .func (PySem.W.fnOf "shows" "Stuck.shows" (C8.fnArgs s_Stuck_shows) (C8.fnBody s_Stuck_shows) (C8.fnScope s_Stuck_shows) .none kV_Stuck_shows dc_Stuck_shows pm_Stuck_shows an_Stuck_shows cd_Stuck_shows ct_Stuck_shows), sl_Stuck_shows⟩)
  (co_Stuck_shows : PySem.W.codeIn K cd_Stuck_shows "Stuck.shows" = true)
  (kp_Stuck_shows : PySem.W.keepIn K (.ref a_Stuck_shows) = true)
  (p_law : PySem.W.nsIn K mainGlobals "law" = some (some (.ref a_law)))
  (k_law : K.lookup a_law = some ⟨oc_law, od_law, .func (PySem.W.fnOf "law" "law" (C8.fnArgs s_law) (C8.fnBody s_law) (C8.fnScope s_law) .none kV_law dc_law pm_law an_law cd_law ct_law), sl_law⟩)
  (co_law : PySem.W.codeIn K cd_law "law" = true)
  (kp_law : PySem.W.keepIn K (.ref a_law) = true) :
    ∃ fd : FuncData, (∀ (s : Shared) (v : Value), BindsTo s fd ⟨[v], []⟩ [("script", v)]) ∧ ∀ base : Heap, K.In base → base.Ns mainGlobals mg → FnOk l.prog w K mg base C8.CX0 6 fa fd ["script"] (spLaw K) := by
  have e := hfa.symm.trans (PySem.W.mg_of X G p_law)
  cases e
  have U__law_number : C8.Fun K "_law_number" "_law_number" s__law_number a__law_number _ := ⟨⟨_, _, _, _, _, _, _, _, _, _, rfl, k__law_number, co__law_number⟩⟩
  have B__law_number : Binds K _ ["script", "index"] [] := U__law_number.binds rfl fun _ _ _ _ _ _ us hl => match us, hl with | [_, _], _ => rfl
  have U__law_take : C8.Fun K "_law_take" "_law_take" s__law_take a__law_take _ := ⟨⟨_, _, _, _, _, _, _, _, _, _, rfl, k__law_take, co__law_take⟩⟩
  have B__law_take : Binds K _ ["draw", "many"] [] := U__law_take.binds rfl fun _ _ _ _ _ _ us hl => match us, hl with | [_, _], _ => rfl
  have U_is_integer : C8.Fun K "is_integer" "is_integer" s_is_integer a_is_integer _ := ⟨⟨_, _, _, _, _, _, _, _, _, _, rfl, k_is_integer, co_is_integer⟩⟩
  have B_is_integer : Binds K _ ["thing"] [] := U_is_integer.binds rfl fun _ _ _ _ _ _ us hl => match us, hl with | [_], _ => rfl
  have U_is_number : C8.Fun K "is_number" "is_number" s_is_number a_is_number _ := ⟨⟨_, _, _, _, _, _, _, _, _, _, rfl, k_is_number, co_is_number⟩⟩
  have B_is_number : Binds K _ ["thing", "least", "most"] [] := U_is_number.binds rfl fun _ _ _ _ _ _ us hl => match us, hl with | [_, _, _], _ => rfl
  have U_is_row : C8.Fun K "is_row" "is_row" s_is_row a_is_row _ := ⟨⟨_, _, _, _, _, _, _, _, _, _, rfl, k_is_row, co_is_row⟩⟩
  have B_is_row : Binds K _ ["thing"] [] := U_is_row.binds rfl fun _ _ _ _ _ _ us hl => match us, hl with | [_], _ => rfl
  have U_Space_init : C8.Fun K "__init__" "Space.__init__" s_Space_init a_Space_init _ := ⟨⟨_, _, _, _, _, _, _, _, _, _, rfl, k_Space_init, co_Space_init⟩⟩
  have B_Space_init : Binds K _ ["self", "places", "claims"] [] := U_Space_init.binds rfl fun _ _ _ _ _ _ us hl => match us, hl with | [_, _, _], _ => rfl
  have U_CanEnd_bool : C8.Fun K "__bool__" "CanEnd.__bool__" s_CanEnd_bool a_CanEnd_bool _ := ⟨⟨_, _, _, _, _, _, _, _, _, _, rfl, k_CanEnd_bool, co_CanEnd_bool⟩⟩
  have B_CanEnd_bool : Binds K _ ["self"] [] := U_CanEnd_bool.binds rfl fun _ _ _ _ _ _ us hl => match us, hl with | [_], _ => rfl
  have U_Stuck_bool : C8.Fun K "__bool__" "Stuck.__bool__" s_Stuck_bool a_Stuck_bool _ := ⟨⟨_, _, _, _, _, _, _, _, _, _, rfl, k_Stuck_bool, co_Stuck_bool⟩⟩
  have B_Stuck_bool : Binds K _ ["self"] [] := U_Stuck_bool.binds rfl fun _ _ _ _ _ _ us hl => match us, hl with | [_], _ => rfl
  have U_check_held : C8.Fun K "check_held" "check_held" s_check_held a_check_held _ := ⟨⟨_, _, _, _, _, _, _, _, _, _, rfl, k_check_held, co_check_held⟩⟩
  have B_check_held : Binds K _ ["space", "held"] [] := U_check_held.binds rfl fun _ _ _ _ _ _ us hl => match us, hl with | [_, _], _ => rfl
  have U_Stuck_init : C8.Fun K "__init__" "Stuck.__init__" s_Stuck_init a_Stuck_init _ := ⟨⟨_, _, _, _, _, _, _, _, _, _, rfl, k_Stuck_init, co_Stuck_init⟩⟩
  have B_Stuck_init : Binds K _ ["self", "numbers"] [] := U_Stuck_init.binds rfl fun _ _ _ _ _ _ us hl => match us, hl with | [_, _], _ => rfl
  have U_CanEnd_init : C8.Fun K "__init__" "CanEnd.__init__" s_CanEnd_init a_CanEnd_init _ := ⟨⟨_, _, _, _, _, _, _, _, _, _, rfl, k_CanEnd_init, co_CanEnd_init⟩⟩
  have B_CanEnd_init : Binds K _ ["self", "order"] [] := U_CanEnd_init.binds rfl fun _ _ _ _ _ _ us hl => match us, hl with | [_, _], _ => rfl
  have U_judge_space : C8.Fun K "judge_space" "judge_space" s_judge_space a_judge_space _ := ⟨⟨_, _, _, _, _, _, _, _, _, _, rfl, k_judge_space, co_judge_space⟩⟩
  have B_judge_space : Binds K _ ["space", "held"] [] := U_judge_space.binds rfl fun _ _ _ _ _ _ us hl => match us, hl with | [_, _], _ => rfl
  have U_first_stuck : C8.Fun K "first_stuck" "first_stuck" s_first_stuck a_first_stuck _ := ⟨⟨_, _, _, _, _, _, _, _, _, _, rfl, k_first_stuck, co_first_stuck⟩⟩
  have B_first_stuck : Binds K _ ["space"] [] := U_first_stuck.binds rfl fun _ _ _ _ _ _ us hl => match us, hl with | [_], _ => rfl
  have U_good_steps : C8.Fun K "good_steps" "good_steps" s_good_steps a_good_steps _ := ⟨⟨_, _, _, _, _, _, _, _, _, _, rfl, k_good_steps, co_good_steps⟩⟩
  have B_good_steps : Binds K _ ["space", "held"] [] := U_good_steps.binds rfl fun _ _ _ _ _ _ us hl => match us, hl with | [_, _], _ => rfl
  have U__law_pick : C8.Fun K "_law_pick" "_law_pick" s__law_pick a__law_pick _ := ⟨⟨_, _, _, _, _, _, _, _, _, _, rfl, k__law_pick, co__law_pick⟩⟩
  have B__law_pick : Binds K _ ["draw", "items"] [] := U__law_pick.binds rfl fun _ _ _ _ _ _ us hl => match us, hl with | [_, _], _ => rfl
  have U_enough_places : C8.Fun K "enough_places" "enough_places" s_enough_places a_enough_places _ := ⟨⟨_, _, _, _, _, _, _, _, _, _, rfl, k_enough_places, co_enough_places⟩⟩
  have B_enough_places : Binds K _ ["claims"] [] := U_enough_places.binds rfl fun _ _ _ _ _ _ us hl => match us, hl with | [_], _ => rfl
  have U_Stuck_shows : C8.Fun K "shows" "Stuck.shows" s_Stuck_shows a_Stuck_shows _ := ⟨⟨_, _, _, _, _, _, _, _, _, _, rfl, k_Stuck_shows, co_Stuck_shows⟩⟩
  have B_Stuck_shows : Binds K _ ["self", "space", "held"] [] := U_Stuck_shows.binds rfl fun _ _ _ _ _ _ us hl => match us, hl with | [_, _, _], _ => rfl
  have U_law : C8.Fun K "law" "law" s_law fa _ := ⟨⟨_, _, _, _, _, _, _, _, _, _, rfl, k_law, co_law⟩⟩
  have B_law : Binds K _ ["script"] [] := U_law.binds rfl fun _ _ _ _ _ _ us hl => match us, hl with | [_], _ => rfl
  exact ⟨PySem.W.fnOf "law" "law" (C8.fnArgs s_law) (C8.fnBody s_law) (C8.fnScope s_law) .none kV_law dc_law pm_law an_law cd_law ct_law, fun s v => .of_eq rfl, fun base _ _ => c_law {
    m_all := PySem.W.mg_none_of X G z_all,
    m_any := PySem.W.mg_none_of X G z_any,
    m_bool := PySem.W.mg_none_of X G z_bool,
    m_enumerate := PySem.W.mg_none_of X G z_enumerate,
    m_int := PySem.W.mg_none_of X G z_int,
    m_isinstance := PySem.W.mg_none_of X G z_isinstance,
    m_len := PySem.W.mg_none_of X G z_len,
    m_list := PySem.W.mg_none_of X G z_list,
    m_range := PySem.W.mg_none_of X G z_range,
    m_set := PySem.W.mg_none_of X G z_set,
    m_sorted := PySem.W.mg_none_of X G z_sorted,
    m_sum := PySem.W.mg_none_of X G z_sum,
    m_tuple := PySem.W.mg_none_of X G z_tuple,
    C_Space := C_Space,
    g_Space := PySem.W.mg_of X G aC_Space,
    l_Space := ⟨pg_Space, hd_Space, po_Space, sa_Space⟩,
    n_Space_places := n_Space_places,
    n_Space_claims := n_Space_claims,
    C_Stuck := C_Stuck,
    g_Stuck := PySem.W.mg_of X G aC_Stuck,
    l_Stuck := ⟨pg_Stuck, hd_Stuck, po_Stuck, sa_Stuck⟩,
    n_Stuck_numbers := n_Stuck_numbers,
    C_CanEnd := C_CanEnd,
    g_CanEnd := PySem.W.mg_of X G aC_CanEnd,
    l_CanEnd := ⟨pg_CanEnd, hd_CanEnd, po_CanEnd, sa_CanEnd⟩,
    n_CanEnd_order := n_CanEnd_order,
    ic_Space := ⟨⟨pg_Space, hd_Space, po_Space, sa_Space⟩, ha_Space, hn_Space, ht_Space, hm_Space, kit_self⟩,
    a__law_number := a__law_number,
    fd__law_number := _,
    F__law_number := ⟨U__law_number, PySem.W.mg_of X G p__law_number, kp__law_number⟩,
    b__law_number := B__law_number,
    a__law_take := a__law_take,
    fd__law_take := _,
    F__law_take := ⟨U__law_take, PySem.W.mg_of X G p__law_take, kp__law_take⟩,
    b__law_take := B__law_take,
    a_is_integer := a_is_integer,
    fd_is_integer := _,
    F_is_integer := ⟨U_is_integer, PySem.W.mg_of X G p_is_integer, kp_is_integer⟩,
    b_is_integer := B_is_integer,
    a_is_number := a_is_number,
    fd_is_number := _,
    F_is_number := ⟨U_is_number, PySem.W.mg_of X G p_is_number, kp_is_number⟩,
    b_is_number := B_is_number,
    a_is_row := a_is_row,
    fd_is_row := _,
    F_is_row := ⟨U_is_row, PySem.W.mg_of X G p_is_row, kp_is_row⟩,
    b_is_row := B_is_row,
    a_Space_init := a_Space_init,
    fd_Space_init := _,
    F_Space_init := U_Space_init,
    M_Space := ⟨mk_Space, p_Space_init, i_Space_init, kc_Space⟩,
    b_Space_init := B_Space_init,
    a_CanEnd_bool := a_CanEnd_bool,
    fd_CanEnd_bool := _,
    F_CanEnd_bool := U_CanEnd_bool,
    e_CanEnd_bool := ⟨p_CanEnd_bool, i_CanEnd_bool, kp_CanEnd_bool⟩,
    b_CanEnd_bool := B_CanEnd_bool,
    a_Stuck_bool := a_Stuck_bool,
    fd_Stuck_bool := _,
    F_Stuck_bool := U_Stuck_bool,
    e_Stuck_bool := ⟨p_Stuck_bool, i_Stuck_bool, kp_Stuck_bool⟩,
    b_Stuck_bool := B_Stuck_bool,
    a_check_held := a_check_held,
    fd_check_held := _,
    F_check_held := ⟨U_check_held, PySem.W.mg_of X G p_check_held, kp_check_held⟩,
    b_check_held := B_check_held,
    a_Stuck_init := a_Stuck_init,
    fd_Stuck_init := _,
    F_Stuck_init := U_Stuck_init,
    M_Stuck := ⟨mk_Stuck, p_Stuck_init, i_Stuck_init, kc_Stuck⟩,
    b_Stuck_init := B_Stuck_init,
    a_CanEnd_init := a_CanEnd_init,
    fd_CanEnd_init := _,
    F_CanEnd_init := U_CanEnd_init,
    M_CanEnd := ⟨mk_CanEnd, p_CanEnd_init, i_CanEnd_init, kc_CanEnd⟩,
    b_CanEnd_init := B_CanEnd_init,
    a_judge_space := a_judge_space,
    fd_judge_space := _,
    F_judge_space := ⟨U_judge_space, PySem.W.mg_of X G p_judge_space, kp_judge_space⟩,
    b_judge_space := B_judge_space,
    a_first_stuck := a_first_stuck,
    fd_first_stuck := _,
    F_first_stuck := ⟨U_first_stuck, PySem.W.mg_of X G p_first_stuck, kp_first_stuck⟩,
    b_first_stuck := B_first_stuck,
    a_good_steps := a_good_steps,
    fd_good_steps := _,
    F_good_steps := ⟨U_good_steps, PySem.W.mg_of X G p_good_steps, kp_good_steps⟩,
    b_good_steps := B_good_steps,
    a__law_pick := a__law_pick,
    fd__law_pick := _,
    F__law_pick := ⟨U__law_pick, PySem.W.mg_of X G p__law_pick, kp__law_pick⟩,
    b__law_pick := B__law_pick,
    a_enough_places := a_enough_places,
    fd_enough_places := _,
    F_enough_places := ⟨U_enough_places, PySem.W.mg_of X G p_enough_places, kp_enough_places⟩,
    b_enough_places := B_enough_places,
    a_Stuck_shows := a_Stuck_shows,
    fd_Stuck_shows := _,
    F_Stuck_shows := U_Stuck_shows,
    e_Stuck_shows := ⟨p_Stuck_shows, i_Stuck_shows, kp_Stuck_shows⟩,
    b_Stuck_shows := B_Stuck_shows,
    a_law := fa,
    fd_law := _,
    F_law := ⟨U_law, PySem.W.mg_of X G p_law, kp_law⟩,
    b_law := B_law } LL⟩

theorem walk (LL : LawHolds) {l : PySem.W.OpenLaw} {q : Program} {loose : List Str} {XP : (Str → Option Value) → Heap → Prop} {YP : World → Heap → Prop} {d : DefRec} {K : Params → PySem.W.Frag} (hn : l.most = some 63) (hdf : d.params.defaults = []) (hY : ∀ (w : World) (h : Heap), YP w h → (K w.params).In h)
    (F : ∀ (w : World) (mg : Str → Option Value) (fa : Addr) (h : Heap), (K w.params).In h → h.Ns mainGlobals mg → mg d.name = some (.ref fa) → ∃ fd : FuncData, (∀ (s : Shared) (u : Value), BindsTo s fd ⟨[u], []⟩ [("script", u)]) ∧ ∀ base : Heap, (K w.params).In base → base.Ns mainGlobals mg → FnOk l.prog w (K w.params) mg base C8.CX0 6 fa fd ["script"] (spLaw (K w.params))) : PySem.W.WalkO q loose XP YP l.row.toRowW d [] (fun f vs => PySem.call f vs) :=
  L2.walk_of (n := 63) (k := 6) (x := "script") (CX := fun _ => C8.CX0) (sp := fun w => spLaw (K w.params)) hn (by decide) hdf ⟨rfl, by decide, by decide⟩ hY F (fun _ _ a ns hl _ hS => ⟨a, ns, rfl, hS, hl, fun _ => rfl⟩) fun _ _ _ _ _ z => z

end K77

open PySem PySem.W PyProof.Rows in
set_option maxRecDepth 100000 in
set_option maxHeartbeats 0 in
theorem PySem.Challenge.cw_onetenants_k77_across_space_holds : PySem.Challenge.rw_onetenants_k77_across_space.Holds := by
  w_on; o_law; k_head; (case hw => w_witness2)
  k_fill
  refine K77.walk K77.LL (l := PySem.Challenge.rw_onetenants_k77_across_space) rfl rfl (fun w h Y => PySem.W.kIn_of Y) ?F
  case F =>
    intro w mg fa h KX G hmg
    refine' K77.all_mk K77.LL KX G hmg ?z_all ?z_any ?z_bool ?z_enumerate ?z_int ?z_isinstance ?z_len ?z_list ?z_range ?z_set ?z_sorted ?z_sum ?z_tuple ?aC_Space ?pg_Space ?hd_Space ?po_Space ?sa_Space ?n_Space_places ?n_Space_claims ?aC_Stuck ?pg_Stuck ?hd_Stuck ?po_Stuck ?sa_Stuck ?n_Stuck_numbers ?aC_CanEnd ?pg_CanEnd ?hd_CanEnd ?po_CanEnd ?sa_CanEnd ?n_CanEnd_order ?ha_Space ?hn_Space ?ht_Space ?hm_Space ?p__law_number ?k__law_number ?co__law_number ?kp__law_number ?p__law_take ?k__law_take ?co__law_take ?kp__law_take ?p_is_integer ?k_is_integer ?co_is_integer ?kp_is_integer ?p_is_number ?k_is_number ?co_is_number ?kp_is_number ?p_is_row ?k_is_row ?co_is_row ?kp_is_row ?p_Space_init ?i_Space_init ?k_Space_init ?co_Space_init ?kp_Space_init ?mk_Space ?kc_Space ?p_CanEnd_bool ?i_CanEnd_bool ?k_CanEnd_bool ?co_CanEnd_bool ?kp_CanEnd_bool ?p_Stuck_bool ?i_Stuck_bool ?k_Stuck_bool ?co_Stuck_bool ?kp_Stuck_bool ?p_check_held ?k_check_held ?co_check_held ?kp_check_held ?p_Stuck_init ?i_Stuck_init ?k_Stuck_init ?co_Stuck_init ?kp_Stuck_init ?mk_Stuck ?kc_Stuck ?p_CanEnd_init ?i_CanEnd_init ?k_CanEnd_init ?co_CanEnd_init ?kp_CanEnd_init ?mk_CanEnd ?kc_CanEnd ?p_judge_space ?k_judge_space ?co_judge_space ?kp_judge_space ?p_first_stuck ?k_first_stuck ?co_first_stuck ?kp_first_stuck ?p_good_steps ?k_good_steps ?co_good_steps ?kp_good_steps ?p__law_pick ?k__law_pick ?co__law_pick ?kp__law_pick ?p_enough_places ?k_enough_places ?co_enough_places ?kp_enough_places ?p_Stuck_shows ?i_Stuck_shows ?k_Stuck_shows ?co_Stuck_shows ?kp_Stuck_shows ?p_law ?k_law ?co_law ?kp_law
    (case z_all => k_is)
    (case z_any => k_is)
    (case z_bool => k_is)
    (case z_enumerate => k_is)
    (case z_int => k_is)
    (case z_isinstance => k_is)
    (case z_len => k_is)
    (case z_list => k_is)
    (case z_range => k_is)
    (case z_set => k_is)
    (case z_sorted => k_is)
    (case z_sum => k_is)
    (case z_tuple => k_is)
    (case aC_Space => k_is)
    (case pg_Space => k_is)
    (case hd_Space => k_is)
    (case po_Space => k_is)
    (case sa_Space => k_is)
    (case n_Space_places => k_is)
    (case n_Space_claims => k_is)
    (case aC_Stuck => k_is)
    (case pg_Stuck => k_is)
    (case hd_Stuck => k_is)
    (case po_Stuck => k_is)
    (case sa_Stuck => k_is)
    (case n_Stuck_numbers => k_is)
    (case aC_CanEnd => k_is)
    (case pg_CanEnd => k_is)
    (case hd_CanEnd => k_is)
    (case po_CanEnd => k_is)
    (case sa_CanEnd => k_is)
    (case n_CanEnd_order => k_is)
    (case ha_Space => k_is)
    (case hn_Space => k_is)
    (case ht_Space => k_is)
    (case hm_Space => k_is)
    (case p__law_number => k_is)
    (case k__law_number => k_is)
    (case co__law_number => k_is)
    (case kp__law_number => k_is)
    (case p__law_take => k_is)
    (case k__law_take => k_is)
    (case co__law_take => k_is)
    (case kp__law_take => k_is)
    (case p_is_integer => k_is)
    (case k_is_integer => k_is)
    (case co_is_integer => k_is)
    (case kp_is_integer => k_is)
    (case p_is_number => k_is)
    (case k_is_number => k_is)
    (case co_is_number => k_is)
    (case kp_is_number => k_is)
    (case p_is_row => k_is)
    (case k_is_row => k_is)
    (case co_is_row => k_is)
    (case kp_is_row => k_is)
    (case p_Space_init => k_is)
    (case i_Space_init => k_is)
    (case k_Space_init => k_is)
    (case co_Space_init => k_is)
    (case kp_Space_init => k_is)
    (case mk_Space => k_is)
    (case kc_Space => k_is)
    (case p_CanEnd_bool => k_is)
    (case i_CanEnd_bool => k_is)
    (case k_CanEnd_bool => k_is)
    (case co_CanEnd_bool => k_is)
    (case kp_CanEnd_bool => k_is)
    (case p_Stuck_bool => k_is)
    (case i_Stuck_bool => k_is)
    (case k_Stuck_bool => k_is)
    (case co_Stuck_bool => k_is)
    (case kp_Stuck_bool => k_is)
    (case p_check_held => k_is)
    (case k_check_held => k_is)
    (case co_check_held => k_is)
    (case kp_check_held => k_is)
    (case p_Stuck_init => k_is)
    (case i_Stuck_init => k_is)
    (case k_Stuck_init => k_is)
    (case co_Stuck_init => k_is)
    (case kp_Stuck_init => k_is)
    (case mk_Stuck => k_is)
    (case kc_Stuck => k_is)
    (case p_CanEnd_init => k_is)
    (case i_CanEnd_init => k_is)
    (case k_CanEnd_init => k_is)
    (case co_CanEnd_init => k_is)
    (case kp_CanEnd_init => k_is)
    (case mk_CanEnd => k_is)
    (case kc_CanEnd => k_is)
    (case p_judge_space => k_is)
    (case k_judge_space => k_is)
    (case co_judge_space => k_is)
    (case kp_judge_space => k_is)
    (case p_first_stuck => k_is)
    (case k_first_stuck => k_is)
    (case co_first_stuck => k_is)
    (case kp_first_stuck => k_is)
    (case p_good_steps => k_is)
    (case k_good_steps => k_is)
    (case co_good_steps => k_is)
    (case kp_good_steps => k_is)
    (case p__law_pick => k_is)
    (case k__law_pick => k_is)
    (case co__law_pick => k_is)
    (case kp__law_pick => k_is)
    (case p_enough_places => k_is)
    (case k_enough_places => k_is)
    (case co_enough_places => k_is)
    (case kp_enough_places => k_is)
    (case p_Stuck_shows => k_is)
    (case i_Stuck_shows => k_is)
    (case k_Stuck_shows => k_is)
    (case co_Stuck_shows => k_is)
    (case kp_Stuck_shows => k_is)
    (case p_law => k_is)
    (case k_law => k_is)
    (case co_law => k_is)
    (case kp_law => k_is)

