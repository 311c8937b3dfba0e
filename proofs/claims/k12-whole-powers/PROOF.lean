import PyProof.Rows.All
import Wide.All
import OpenK.AllK
import Wide.FinOn
import HandS.ForMost
import HandS.Conv
import HandS.TupAny
import HandS.IsInst
import HandS.Deep
import HandS.Walk
import HandS.Wide
import HandS.Zip
import HandS.Style
import HandS.Lambda
import HandS.Nested
import HandS.EndTab
import KE.SortData
import KE.KeyNested
import KE.KDictKeyed
import PyProof.ReprRoads
import KE.GoesEnum
import KE.KDictDisplayH
import PyProof.Rows.TupDisplay
import KE.DataCmp
import PyProof.ReprLen
import HandS.EndOwn
import HandS.HeadWalk
import PySem.Challenge.RW_manydeep_k12_whole_powers_and_addresses
set_option Elab.async false
set_option linter.all false
set_option maxRecDepth 100000
set_option maxHeartbeats 4000000
/-! The data layer over HandS: slots hold data (PyData) or a list of the def's own. -/
namespace L3
open PySem L2
open PySem.Spec

/-! ### the heap in sight -/
/-- the tables of code objects; the deck's dict and its list of cells, where there is a deck -/
structure C3 where
  T : List (Addr × Str)
  dk : Option (Addr × Addr)
def C3.W (C : C3) (a : Addr) : Prop := ∃ p, C.dk = some p ∧ (a = p.1 ∨ a = p.2)
abbrev C3.off (C : C3) : C3 := ⟨C.T, none⟩
theorem off_W {C : C3} {a : Addr} (h : C.off.W a) : False := by
  obtain ⟨p, e, _⟩ := h
  cases e

abbrev Msk := Addr → Prop
/-- the heap without what is masked -/
noncomputable def wo (H : Hp) (N : Msk) : Hp := fun a => open Classical in if N a then none else H a
theorem wo_not {H : Hp} {N : Msk} {a : Addr} (h : ¬ N a) : wo H N a = H a := by
  unfold wo
  rw [if_neg h]
theorem wo_some {H : Hp} {N : Msk} {a : Addr} {o : HO} (h : wo H N a = some o) : ¬ N a ∧ H a = some o := by
  unfold wo at h
  by_cases q : N a
  · rw [if_pos q] at h
    cases h
  · rw [if_neg q] at h
    exact ⟨q, h⟩

/-- all that is not masked stays; a table of code objects may grow -/
def GoN (N : Msk) (H H' : Hp) : Prop := ∀ b o, H b = some o → ¬ N b → H' b = some o ∨ ∃ ps qs, o = .tbl ps ∧ H' b = some (.tbl qs)
theorem GoN.refl {N : Msk} {H : Hp} : GoN N H H := fun _ _ e _ => .inl e
theorem GoN.trans {N : Msk} {H H1 H2 : Hp} (a : GoN N H H1) (b : GoN N H1 H2) : GoN N H H2 := fun c o e n => by
  rcases a c o e n with h | ⟨ps, qs, e1, h⟩
  · exact b c o h n
  · rcases b c _ h n with k | ⟨p2, q2, _, k⟩
    · exact .inr ⟨ps, qs, e1, k⟩
    · exact .inr ⟨ps, q2, e1, k⟩
theorem GoN.mono {N N' : Msk} {H H' : Hp} (a : GoN N H H') (h : ∀ b, N b → N' b) : GoN N' H H' := fun c o e n => a c o e fun q => n (h c q)
theorem GoN.keep {N : Msk} {H H' : Hp} (a : GoN N H H') {b : Addr} {o : HO} (e : H b = some o) (n : ¬ N b) (h : ∀ ps, o ≠ .tbl ps) : H' b = some o := by
  rcases a b o e n with k | ⟨ps, _, e1, _⟩
  · exact k
  · exact absurd e1 (h ps)
theorem GoN.laid {N : Msk} {H : Hp} {p : Addr} {o : HO} (h : H p = none) : GoN N H (upd H p o) := fun b u e _ => .inl (by rw [upd_ne (ne_of_none e h)]; exact e)
/-- what is free behind was free ahead -/
theorem GoN.free {N : Msk} {H H' : Hp} (a : GoN N H H') {b : Addr} (n : ¬ N b) (h : H' b = none) : H b = none := by
  cases q : H b with
  | none => rfl
  | some o =>
    rcases a b o q n with k | ⟨_, _, _, k⟩ <;> rw [h] at k <;> cases k
abbrev Go (C : C3) : Hp → Hp → Prop := GoN C.W

/-- the deck -/
def DeckAt (H : Hp) (p : Addr × Addr) : Prop := ∃ (cs : List Int) (m d : Int), cs.length ≤ 63 ∧ p.1 ≠ p.2 ∧
  H p.1 = some (.dK [(Sum.inr "cells", .ref p.2), (Sum.inr "mixed", .int m), (Sum.inr "draws", .int d)]) ∧ H p.2 = some (.lst (cs.map V.int))
structure Glob (C : C3) (H : Hp) : Prop where
  tabs : LamX.Tabs C.T H
  deck : ∀ p, C.dk = some p → DeckAt H p
theorem Glob.off {C : C3} {H : Hp} (g : Glob C H) : Glob C.off H := ⟨g.tabs, fun _ e => nomatch e⟩
theorem Glob.laid {C : C3} {H : Hp} (g : Glob C H) {p : Addr} {o : HO} (h : H p = none) : Glob C (upd H p o) := by
  have k : ∀ b u, H b = some u → upd H p o b = some u := fun b u e => by rw [upd_ne (ne_of_none e h)]; exact e
  refine ⟨g.tabs.ext k, fun q e => ?_⟩
  obtain ⟨cs, m, d, z, ne, h1, h2⟩ := g.deck q e
  exact ⟨cs, m, d, z, ne, k _ _ h1, k _ _ h2⟩
/-- a pure def leaves the deck as it is -/
theorem Glob.back {C : C3} {H H' : Hp} (g : Glob C H) (a : Go C.off H H') (g' : Glob C.off H') : Glob C H' := by
  refine ⟨g'.tabs, fun q e => ?_⟩
  obtain ⟨cs, m, d, z, ne, h1, h2⟩ := g.deck q e
  exact ⟨cs, m, d, z, ne, a.keep h1 (fun w => off_W w) (by intro _ z; cases z), a.keep h2 (fun w => off_W w) (by intro _ z; cases z)⟩

structure Mok (C : C3) (N : Msk) (H : Hp) : Prop where
  sub : ∀ a, C.W a → N a
  dom : ∀ a, N a → ∃ o, H a = some o ∧ ∀ ps, o ≠ .tbl ps
theorem Mok.fresh {C : C3} {N : Msk} {H : Hp} (m : Mok C N H) {p : Addr} (h : H p = none) : ¬ N p := fun q => by
  obtain ⟨o, e, _⟩ := m.dom p q
  rw [h] at e
  cases e
theorem Mok.go {C : C3} {N : Msk} {H H' : Hp} (m : Mok C N H) (a : Go C H H') (g : Glob C H') : Mok C N H' := by
  refine ⟨m.sub, fun b n => ?_⟩
  by_cases w : C.W b
  · obtain ⟨p, e, h⟩ := w
    obtain ⟨cs, x, d, _, _, h1, h2⟩ := g.deck p e
    rcases h with h | h
    · exact ⟨_, by rw [h]; exact h1, by intro _ z; cases z⟩
    · exact ⟨_, by rw [h]; exact h2, by intro _ z; cases z⟩
  · obtain ⟨o, e, h⟩ := m.dom b n
    exact ⟨o, a.keep e w h, h⟩
theorem Mok.off {C : C3} {N : Msk} {H : Hp} (m : Mok C N H) : Mok C.off N H := ⟨fun _ w => (off_W w).elim, m.dom⟩

/-! ### data in the heap -/
mutual
/-- the value v stands for the data d in the heap G -/
inductive R3 (G : Hp) : V → PyData → Prop
  | non : R3 G .non .none
  | bl (b : Bool) : R3 G (.bl b) (.bool b)
  | int (i : Int) : R3 G (.int i) (.int i)
  | str (x : Str) : R3 G (.str x) (.str x)
  | lst {a : Addr} {xs : List V} {ds : List PyData} : G a = some (.lst xs) → R3s G xs ds → R3 G (.ref a) (.list ds)
  | tup {a : Addr} {xs : List V} {ds : List PyData} : G a = some (.tup xs) → R3s G xs ds → R3 G (.ref a) (.tuple ds)
inductive R3s (G : Hp) : List V → List PyData → Prop
  | nil : R3s G [] []
  | cons {v : V} {vs : List V} {d : PyData} {ds : List PyData} : R3 G v d → R3s G vs ds → R3s G (v :: vs) (d :: ds)
end
/-- what stands in G stands in G' -/
def Sub (G G' : Hp) : Prop := ∀ a o, G a = some o → (∀ ps, o ≠ .tbl ps) → G' a = some o
section
variable {G G' : Hp}
mutual
theorem r3_sub (h : Sub G G') : ∀ (d : PyData) (v : V), R3 G v d → R3 G' v d
  | .none, _, q => by cases q; exact .non
  | .bool _, _, q => by cases q; exact .bl _
  | .int _, _, q => by cases q; exact .int _
  | .str _, _, q => by cases q; exact .str _
  | .list ds, _, q => by
    cases q with
    | lst a b => exact .lst (h _ _ a (by intro _ z; cases z)) (r3s_sub h ds _ b)
  | .tuple ds, _, q => by
    cases q with
    | tup a b => exact .tup (h _ _ a (by intro _ z; cases z)) (r3s_sub h ds _ b)
  | .dict _, _, q => by cases q
theorem r3s_sub (h : Sub G G') : ∀ (ds : List PyData) (vs : List V), R3s G vs ds → R3s G' vs ds
  | [], _, q => by cases q; exact .nil
  | d :: ds, _, q => by
    cases q with
    | cons a b => exact .cons (r3_sub h d _ a) (r3s_sub h ds _ b)
end
mutual
/-- as the modules say it -/
theorem r3_dp {K : PySem.W.Frag} : ∀ (d : PyData) (v : V), R3 G v d → Dp K G v d
  | .none, _, q => by cases q; exact .non
  | .bool _, _, q => by cases q; exact .bl _
  | .int _, _, q => by cases q; exact .int _
  | .str _, _, q => by cases q; exact .str _
  | .list ds, _, q => by
    cases q with
    | lst a b => exact .lst (.inl (.inl a)) (r3s_dp ds _ b)
  | .tuple ds, _, q => by
    cases q with
    | tup a b => exact .tup (.inl (.inl a)) (r3s_dp ds _ b)
  | .dict _, _, q => by cases q
theorem r3s_dp {K : PySem.W.Frag} : ∀ (ds : List PyData) (vs : List V), R3s G vs ds → DpAll K G vs ds
  | [], _, q => by cases q; exact .nil
  | d :: ds, _, q => by
    cases q with
    | cons a b => exact .cons (r3_dp d _ a) (r3s_dp ds _ b)
end
end
theorem Sub.refl {G : Hp} : Sub G G := fun _ _ e _ => e
theorem sub_go {C : C3} {N : Msk} {H H' : Hp} (m : ∀ a, C.W a → N a) (a : Go C H H') : Sub (wo H N) (wo H' N) := fun b o e h => by
  obtain ⟨n, e1⟩ := wo_some e
  rw [wo_not n]
  exact a.keep e1 (fun w => n (m b w)) h
theorem sub_goN {N : Msk} {H H' : Hp} (a : GoN N H H') : Sub (wo H N) (wo H' N) := fun b o e h => by
  obtain ⟨n, e1⟩ := wo_some e
  rw [wo_not n]
  exact a.keep e1 n h
theorem sub_less {N N' : Msk} {H : Hp} (h : ∀ a, N' a → N a) : Sub (wo H N) (wo H N') := fun b o e _ => by
  obtain ⟨n, e1⟩ := wo_some e
  rw [wo_not fun q => n (h b q)]
  exact e1
theorem sub_all {N : Msk} {H : Hp} : Sub (wo H N) H := fun b o e _ => (wo_some e).2
section
variable {G : Hp}
theorem r3s_len : ∀ {ds : List PyData} {vs : List V}, R3s G vs ds → vs.length = ds.length
  | [], _, q => by cases q; rfl
  | d :: ds, _, q => by
    cases q with
    | cons a b => rw [List.length_cons, List.length_cons, r3s_len b]
theorem r3s_get : ∀ {ds : List PyData} {vs : List V} {i : Nat} {d : PyData}, R3s G vs ds → ds[i]? = some d → ∃ v, vs[i]? = some v ∧ R3 G v d
  | [], _, _, _, _, e => by simp at e
  | d :: ds, _, 0, _, q, e => by
    cases q with
    | cons a b =>
      simp at e
      subst e
      exact ⟨_, rfl, a⟩
  | d :: ds, _, i + 1, _, q, e => by
    cases q with
    | cons a b =>
      obtain ⟨v, h1, h2⟩ := r3s_get (i := i) b (by simpa using e)
      exact ⟨v, by simpa using h1, h2⟩
theorem r3s_get2 : ∀ {ds : List PyData} {vs : List V} {i : Nat} {v : V}, R3s G vs ds → vs[i]? = some v → ∃ d, ds[i]? = some d ∧ R3 G v d
  | [], _, _, _, q, e => by cases q; simp at e
  | d :: ds, _, 0, _, q, e => by
    cases q with
    | cons a b =>
      simp at e
      subst e
      exact ⟨_, rfl, a⟩
  | d :: ds, _, i + 1, _, q, e => by
    cases q with
    | cons a b =>
      obtain ⟨v, h1, h2⟩ := r3s_get2 (i := i) b (by simpa using e)
      exact ⟨v, by simpa using h1, h2⟩
theorem r3s_app : ∀ {ds es : List PyData} {vs us : List V}, R3s G vs ds → R3s G us es → R3s G (vs ++ us) (ds ++ es)
  | [], _, _, _, q, r => by cases q; exact r
  | d :: ds, _, _, _, q, r => by
    cases q with
    | cons a b => exact .cons a (r3s_app b r)
theorem r3s_take : ∀ {ds : List PyData} {vs : List V} (n : Nat), R3s G vs ds → R3s G (vs.take n) (ds.take n)
  | _, _, 0, _ => by rw [List.take_zero, List.take_zero]; exact .nil
  | [], _, n + 1, q => by cases q; exact .nil
  | d :: ds, _, n + 1, q => by
    cases q with
    | cons a b => exact .cons a (r3s_take n b)
theorem r3s_drop : ∀ {ds : List PyData} {vs : List V} (n : Nat), R3s G vs ds → R3s G (vs.drop n) (ds.drop n)
  | _, _, 0, q => q
  | [], _, n + 1, q => by cases q; exact .nil
  | d :: ds, _, n + 1, q => by
    cases q with
    | cons a b => exact r3s_drop n b
theorem r3s_set : ∀ {ds : List PyData} {vs : List V} {v : V} {d : PyData} (n : Nat), R3s G vs ds → R3 G v d → R3s G (vs.set n v) (ds.set n d)
  | [], _, _, _, n, q, _ => by cases q; exact .nil
  | e :: ds, _, _, _, 0, q, r => by
    cases q with
    | cons a b => exact .cons r b
  | e :: ds, _, _, _, n + 1, q, r => by
    cases q with
    | cons a b => exact .cons a (r3s_set n b r)
theorem r3s_ints : ∀ {ns : List Int} {vs : List V}, R3s G vs (ns.map PyData.int) → vs = ns.map V.int
  | [], _, q => by cases q; rfl
  | n :: ns, _, q => by
    cases q with
    | cons a b =>
      cases a
      rw [r3s_ints b]
      rfl
theorem ints_r3s : ∀ ns : List Int, R3s G (ns.map V.int) (ns.map PyData.int)
  | [] => .nil
  | n :: ns => .cons (.int n) (ints_r3s ns)
theorem r3s_bools : ∀ {ns : List Bool} {vs : List V}, R3s G vs (ns.map PyData.bool) → vs = ns.map V.bl
  | [], _, q => by cases q; rfl
  | n :: ns, _, q => by
    cases q with
    | cons a b =>
      cases a
      rw [r3s_bools b]
      rfl
theorem r3s_of_get : ∀ {ds : List PyData} {vs : List V}, vs.length = ds.length → (∀ (i : Nat) v d, vs[i]? = some v → ds[i]? = some d → R3 G v d) → R3s G vs ds
  | [], [], _, _ => .nil
  | [], _ :: _, e, _ => by simp at e
  | _ :: _, [], e, _ => by simp at e
  | d :: ds, v :: vs, e, h => .cons (h 0 v d rfl rfl) (r3s_of_get (by simpa using e) fun i u c h1 h2 => h (i + 1) u c (by simpa using h1) (by simpa using h2))
end

/-! ### slots -/
inductive Cell where
  | un | dat (d : PyData) | own (ds : List PyData) | own2 (ds es : List PyData) | val (v : V)
abbrev Env3 := List Cell
def CellOk (N : Msk) (am : Nat → Option Addr) (H : Hp) (σ : St) (i : Nat) : Cell → Prop
  | .un => True
  | .dat d => ∃ v, σ[i]? = some (some v) ∧ R3 (wo H N) v d
  | .own ds => ∃ a vs, am (2 * i) = some a ∧ σ[i]? = some (some (.ref a)) ∧ H a = some (.lst vs) ∧ R3s (wo H N) vs ds
  | .own2 ds es => ∃ t a b vs us, am (2 * i) = some a ∧ am (2 * i + 1) = some b ∧ σ[i]? = some (some (.ref t)) ∧ wo H N t = some (.tup [.ref a, .ref b]) ∧ H a = some (.lst vs) ∧ H b = some (.lst us) ∧ R3s (wo H N) vs ds ∧ R3s (wo H N) us es
  | .val v => σ[i]? = some (some v)
/-- the slots hold what is said: the list of an own slot i is the object at am (2 * i), masked -/
structure EnvA (C : C3) (N : Msk) (am : Nat → Option Addr) (H : Hp) (σ : St) (ρ : Env3) : Prop where
  mok : Mok C N H
  glob : Glob C H
  len : ρ.length = σ.length
  sl : ∀ i c, ρ[i]? = some c → CellOk N am H σ i c
  amN : ∀ i a, am i = some a → N a ∧ ¬ C.W a ∧ ∃ vs, H a = some (.lst vs)
  inj : ∀ i j a, am i = some a → am j = some a → i = j
section
variable {C : C3} {N : Msk} {am : Nat → Option Addr} {H H' : Hp} {σ : St} {ρ : Env3}
theorem EnvA.go (e : EnvA C N am H σ ρ) (a : Go C H H') (g : Glob C H') : EnvA C N am H' σ ρ := by
  have s := sub_go (N := N) e.mok.sub a
  refine ⟨e.mok.go a g, g, e.len, fun i c q => ?_, fun i b q => ?_, e.inj⟩
  · have k := e.sl i c q
    cases c with
    | un => exact k
    | dat d =>
      obtain ⟨v, h1, h2⟩ := k
      exact ⟨v, h1, r3_sub s _ _ h2⟩
    | own ds =>
      obtain ⟨b, vs, h1, h2, h3, h4⟩ := k
      exact ⟨b, vs, h1, h2, a.keep h3 (e.amN _ b h1).2.1 (by intro _ z; cases z), r3s_sub s _ _ h4⟩
    | own2 ds es =>
      obtain ⟨t, b, c, vs, us, h1, h2, h3, h4, h5, h6, h7, h8⟩ := k
      exact ⟨t, b, c, vs, us, h1, h2, h3, s _ _ h4 (by intro _ z; cases z), a.keep h5 (e.amN _ b h1).2.1 (by intro _ z; cases z), a.keep h6 (e.amN _ c h2).2.1 (by intro _ z; cases z), r3s_sub s _ _ h7, r3s_sub s _ _ h8⟩
    | val v => exact k
  · obtain ⟨h1, h2, vs, h3⟩ := e.amN i b q
    exact ⟨h1, h2, vs, a.keep h3 h2 (by intro _ z; cases z)⟩
theorem EnvA.dat (e : EnvA C N am H σ ρ) {i : Nat} {d : PyData} (h : ρ[i]? = some (.dat d)) : ∃ v, σ[i]? = some (some v) ∧ R3 (wo H N) v d := e.sl i _ h
end

/-! ### readings of expressions -/
abbrev TD := Env3 → (PyData → Prop) → Prop
abbrev TTd := Env3 → (Bool → Prop) → Prop
abbrev TAd := Env3 → (List PyData → Prop) → Prop
def Snd (C : C3) (t : TE) (τ : TD) : Prop := ∀ (N : Msk) (am : Nat → Option Addr) (H : Hp) (σ : St) (ρ : Env3) (QD : PyData → Prop) (Q : VK), EnvA C N am H σ ρ → τ ρ QD →
  (∀ v H' d, QD d → Go C H H' → Glob C H' → R3 (wo H' N) v d → Q v H') → t σ H Q
def SndT (C : C3) (t : TT) (τ : TTd) : Prop := ∀ (N : Msk) (am : Nat → Option Addr) (H : Hp) (σ : St) (ρ : Env3) (QD : Bool → Prop) (Q : Bool → Hp → Prop), EnvA C N am H σ ρ → τ ρ QD →
  (∀ b H', QD b → Go C H H' → Glob C H' → Q b H') → t σ H Q
def SndA (C : C3) (t : TA) (τ : TAd) : Prop := ∀ (N : Msk) (am : Nat → Option Addr) (H : Hp) (σ : St) (ρ : Env3) (QD : List PyData → Prop) (Q : List V → Hp → Prop), EnvA C N am H σ ρ → τ ρ QD →
  (∀ vs H' ds, QD ds → Go C H H' → Glob C H' → R3s (wo H' N) vs ds → Q vs H') → t σ H Q
structure PDE (X : Cx) (C : C3) (e : Expr) (t : TE) (τ : TD) : Prop where
  pe : PE X e t
  snd : Snd C t τ
structure PDT (X : Cx) (C : C3) (e : Expr) (t : TT) (τ : TTd) : Prop where
  pt : PT X e t
  snd : SndT C t τ
structure PDW (X : Cx) (C : C3) (e : Expr) (t : TT) (τ : TTd) : Prop where
  pw : PW X e t
  snd : SndT C t τ
structure PDA (X : Cx) (C : C3) (es : List Expr) (t : TA) (τ : TAd) : Prop where
  pa : PA X es t
  snd : SndA C t τ

def dVar (i : Nat) : TD := fun ρ Q => ∃ d, ρ[i]? = some (.dat d) ∧ Q d
def dC (d : PyData) : TD := fun _ Q => Q d
def dNil : TAd := fun _ Q => Q []
def dCons (t : TD) (u : TAd) : TAd := fun ρ Q => t ρ fun d => u ρ fun ds => Q (d :: ds)
def dTup (t : TAd) : TD := fun ρ Q => t ρ fun ds => ds.length ≤ 1000 ∧ Q (.tuple ds)
def dLst (t : TAd) : TD := fun ρ Q => t ρ fun ds => ds.length ≤ 1000 ∧ Q (.list ds)
def dOp (ψ : PyData → PyData → (PyData → Prop) → Prop) (t u : TD) : TD := fun ρ Q => t ρ fun d => u ρ fun e => ψ d e Q
def dUn (ψ : PyData → (PyData → Prop) → Prop) (t : TD) : TD := fun ρ Q => t ρ fun d => ψ d Q
def dCB (ψ : List PyData → (PyData → Prop) → Prop) (t : TAd) : TD := fun ρ Q => t ρ fun ds => ψ ds Q
section
variable {C : C3}
theorem snd_var (i : Nat) : Snd C (tVar i) (dVar i) := fun N am H σ ρ QD Q e h hQ => by
  obtain ⟨d, e1, q⟩ := h
  obtain ⟨v, h1, h2⟩ := e.dat e1
  exact ⟨v, h1, hQ v H d q GoN.refl e.glob h2⟩
theorem snd_c {v : V} {d : PyData} (hd : ∀ G, R3 G v d) : Snd C (tC v) (dC d) := fun N am H σ ρ QD Q e h hQ => hQ v H d h GoN.refl e.glob (hd _)
theorem snd_nil : SndA C tNil dNil := fun N am H σ ρ QD Q e h hQ => hQ [] H [] h GoN.refl e.glob .nil
theorem snd_cons {ta : TE} {tr : TA} {τa : TD} {τr : TAd} (ha : Snd C ta τa) (hr : SndA C tr τr) : SndA C (tCons ta tr) (dCons τa τr) := fun N am H σ ρ QD Q e h hQ =>
  ha N am H σ ρ _ _ e h fun v H1 d q a g r => hr N am H1 σ ρ _ _ (e.go a g) q fun vs H2 ds q2 a2 g2 r2 =>
    hQ (v :: vs) H2 (d :: ds) q2 (a.trans a2) g2 (.cons (r3_sub (sub_go e.mok.sub a2) _ _ r) r2)
theorem snd_mono {t : TE} {τ τ' : TD} (h : Snd C t τ) (m : ∀ ρ Q, τ' ρ Q → τ ρ Q) : Snd C t τ' := fun N am H σ ρ QD Q e q hQ => h N am H σ ρ QD Q e (m ρ QD q) hQ
/-- a new object is laid, of data -/
theorem lay {N : Msk} {H : Hp} (m : Mok C N H) (g : Glob C H) {p : Addr} {o : HO} (h : H p = none) : Go C H (upd H p o) ∧ Glob C (upd H p o) ∧ wo (upd H p o) N p = some o ∧ Sub (wo H N) (wo (upd H p o) N) := by
  have a : Go C H (upd H p o) := GoN.laid h
  exact ⟨a, g.laid h, by rw [wo_not (m.fresh h)]; exact upd_same, sub_go m.sub a⟩
theorem few {n : Nat} (h : n ≤ 1000) : n ≤ sizeLine := Nat.le_of_lt (small1000 h)
theorem snd_tup {t : TA} {τ : TAd} (h : SndA C t τ) : Snd C (tTup t) (dTup τ) := fun N am H σ ρ QD Q e q hQ =>
  h N am H σ ρ _ _ e q fun vs H1 ds q1 a g r => by
    refine ⟨by rw [r3s_len r]; exact few q1.1, fun p hp => ?_⟩
    obtain ⟨a1, g1, w1, s1⟩ := lay (e.go a g).mok g (o := .tup vs) hp
    exact hQ _ _ _ q1.2 (a.trans a1) g1 (.tup w1 (r3s_sub s1 _ _ r))
theorem snd_lst {t : TA} {τ : TAd} (h : SndA C t τ) : Snd C (tLst t) (dLst τ) := fun N am H σ ρ QD Q e q hQ =>
  h N am H σ ρ _ _ e q fun vs H1 ds q1 a g r => by
    refine ⟨by rw [r3s_len r]; exact few q1.1, fun p hp => ?_⟩
    obtain ⟨a1, g1, w1, s1⟩ := lay (e.go a g).mok g (o := .lst vs) hp
    exact hQ _ _ _ q1.2 (a.trans a1) g1 (.lst w1 (r3s_sub s1 _ _ r))

/-- an operation by values, said of data -/
def Lift2 (C : C3) (r : R2) (ψ : PyData → PyData → (PyData → Prop) → Prop) : Prop := ∀ (N : Msk) (H : Hp) (x y : V) (d e : PyData) (QD : PyData → Prop) (Q : VK), Mok C N H → Glob C H → R3 (wo H N) x d → R3 (wo H N) y e → ψ d e QD →
  (∀ v H' c, QD c → Go C H H' → Glob C H' → R3 (wo H' N) v c → Q v H') → r x y H Q
def LiftA (C : C3) (r : List V → Hp → VK → Prop) (ψ : List PyData → (PyData → Prop) → Prop) : Prop := ∀ (N : Msk) (H : Hp) (xs : List V) (ds : List PyData) (QD : PyData → Prop) (Q : VK), Mok C N H → Glob C H → R3s (wo H N) xs ds → ψ ds QD →
  (∀ v H' c, QD c → Go C H H' → Glob C H' → R3 (wo H' N) v c → Q v H') → r xs H Q
theorem snd_op {r : R2} {ψ : PyData → PyData → (PyData → Prop) → Prop} {ta tb : TE} {τa τb : TD} (hr : Lift2 C r ψ) (ha : Snd C ta τa) (hb : Snd C tb τb) : Snd C (tOp r ta tb) (dOp ψ τa τb) := fun N am H σ ρ QD Q e h hQ =>
  ha N am H σ ρ _ _ e h fun v H1 d q a g rv => hb N am H1 σ ρ _ _ (e.go a g) q fun u H2 c q2 a2 g2 ru =>
    hr N H2 v u d c QD Q ((e.go a g).go a2 g2).mok g2 (r3_sub (sub_go e.mok.sub a2) _ _ rv) ru q2 fun w H3 c3 q3 a3 g3 r3 => hQ w H3 c3 q3 ((a.trans a2).trans a3) g3 r3
theorem snd_cb {r : List V → Hp → VK → Prop} {ψ : List PyData → (PyData → Prop) → Prop} {t : TA} {τ : TAd} (hr : LiftA C r ψ) (h : SndA C t τ) : Snd C (tCB r t) (dCB ψ τ) := fun N am H σ ρ QD Q e q hQ =>
  h N am H σ ρ _ _ e q fun vs H1 ds q1 a g rv => hr N H1 vs ds QD Q (e.go a g).mok g rv q1 fun w H2 c q2 a2 g2 r2 => hQ w H2 c q2 (a.trans a2) g2 r2
end
end L3
namespace L3
open PySem L2
open PySem.Spec
section
variable {C : C3}
/-! ### operations -/
def dI (f : Int → Int → PyData) : PyData → PyData → (PyData → Prop) → Prop := fun d e Q => ∃ i j, d = .int i ∧ e = .int j ∧ Q (f i j)
def dIc (P : Int → Int → Prop) (f : Int → Int → PyData) : PyData → PyData → (PyData → Prop) → Prop := fun d e Q => ∃ i j, d = .int i ∧ e = .int j ∧ P i j ∧ Q (f i j)
theorem lift_i {g : Int → Int → V} {f : Int → Int → PyData} (h : ∀ i j G, R3 G (g i j) (f i j)) : Lift2 C (rI0 g) (dI f) := fun N H x y d e QD Q m gl rx ry q hQ => by
  obtain ⟨i, j, rfl, rfl, q⟩ := q
  cases rx
  cases ry
  exact ⟨i, j, rfl, rfl, hQ _ H _ q GoN.refl gl (h i j _)⟩
theorem lift_ic {P : Int → Int → Prop} {g : Int → Int → V} {f : Int → Int → PyData} (h : ∀ i j G, R3 G (g i j) (f i j)) : Lift2 C (rI P g) (dIc P f) := fun N H x y d e QD Q m gl rx ry q hQ => by
  obtain ⟨i, j, rfl, rfl, hp, q⟩ := q
  cases rx
  cases ry
  exact ⟨i, j, rfl, rfl, hp, hQ _ H _ q GoN.refl gl (h i j _)⟩
def dCat : PyData → PyData → (PyData → Prop) → Prop := fun d e Q => ∃ xs ys, d = .tuple xs ∧ e = .tuple ys ∧ xs.length + ys.length ≤ 100000 ∧ Q (.tuple (xs ++ ys))
theorem big {n : Nat} (h : n ≤ 100000) : n ≤ sizeLine := by
  have := sizeLine_eq
  omega
theorem lift_cat {K : PySem.W.Frag} : Lift2 C (rCatA K) dCat := fun N H x y d e QD Q m gl rx ry q hQ => by
  obtain ⟨xs, ys, rfl, rfl, hl, q⟩ := q
  cases rx with
  | @tup a us _ ha hu =>
    cases ry with
    | @tup b ws _ hb hw =>
      have l1 := r3s_len hu
      have l2 := r3s_len hw
      refine ⟨a, b, us, ws, rfl, rfl, .of (wo_some ha).2, .of (wo_some hb).2, big (by omega), fun z => ?_, fun z1 z2 => ?_, fun z1 z2 p hp => ?_⟩
      · subst z
        cases hu
        exact hQ _ H _ q GoN.refl gl (.tup hb hw)
      · subst z2
        cases hw
        rw [List.append_nil] at q
        exact hQ _ H _ q GoN.refl gl (.tup ha hu)
      · obtain ⟨a1, g1, w1, s1⟩ := lay m gl (o := .tup (us ++ ws)) hp
        exact hQ _ _ _ q a1 g1 (.tup w1 (r3s_app (r3s_sub s1 _ _ hu) (r3s_sub s1 _ _ hw)))
def dCatL : PyData → PyData → (PyData → Prop) → Prop := fun d e Q => ∃ xs ys, d = .list xs ∧ e = .list ys ∧ xs.length + ys.length ≤ 100000 ∧ Q (.list (xs ++ ys))
theorem lift_catL : Lift2 C rCat dCatL := fun N H x y d e QD Q m gl rx ry q hQ => by
  obtain ⟨xs, ys, rfl, rfl, hl, q⟩ := q
  cases rx with
  | @lst a us _ ha hu =>
    cases ry with
    | @lst b ws _ hb hw =>
      have l1 := r3s_len hu
      have l2 := r3s_len hw
      refine ⟨a, b, us, ws, rfl, rfl, (wo_some ha).2, (wo_some hb).2, big (by omega), fun p hp => ?_⟩
      obtain ⟨a1, g1, w1, s1⟩ := lay m gl (o := .lst (us ++ ws)) hp
      exact hQ _ _ _ q a1 g1 (.lst w1 (r3s_app (r3s_sub s1 _ _ hu) (r3s_sub s1 _ _ hw)))
/-- [0] * k -/
def dRep : PyData → PyData → (PyData → Prop) → Prop := fun d e Q => ∃ (c : PyData) (k : Nat), d = .list [c] ∧ e = .int k ∧ k ≤ 1000 ∧ Q (.list (List.replicate k c))
theorem r3s_rep {G : Hp} {v : V} {d : PyData} (h : R3 G v d) : ∀ k, R3s G (List.replicate k v) (List.replicate k d)
  | 0 => .nil
  | k + 1 => .cons h (r3s_rep h k)
theorem flat_rep {α : Type} (x : α) : ∀ k, (List.replicate k [x]).flatten = List.replicate k x
  | 0 => rfl
  | k + 1 => by rw [List.replicate_succ, List.flatten_cons, flat_rep x k]; rfl
def dEq : PyData → PyData → (PyData → Prop) → Prop := fun d e Q => SeqAt.shaped d = true ∧ SeqAt.shaped e = true ∧ Q (.bool (PyData.eqv d e))
def dNe : PyData → PyData → (PyData → Prop) → Prop := fun d e Q => SeqAt.shaped d = true ∧ SeqAt.shaped e = true ∧ Q (.bool (!PyData.eqv d e))
theorem lift_eq {K : PySem.W.Frag} : Lift2 C (rEqD K) dEq := fun N H x y d e QD Q m gl rx ry q hQ => by
  obtain ⟨h1, h2, q⟩ := q
  exact ⟨d, e, r3_dp _ _ (r3_sub sub_all _ _ rx), r3_dp _ _ (r3_sub sub_all _ _ ry), h1, h2, hQ _ H _ q GoN.refl gl (.bl _)⟩
theorem lift_ne {K : PySem.W.Frag} : Lift2 C (rNeD K) dNe := fun N H x y d e QD Q m gl rx ry q hQ => by
  obtain ⟨h1, h2, q⟩ := q
  exact ⟨d, e, r3_dp _ _ (r3_sub sub_all _ _ rx), r3_dp _ _ (r3_sub sub_all _ _ ry), h1, h2, hQ _ H _ q GoN.refl gl (.bl _)⟩
def isNo : PyData → Bool
  | .none => true
  | _ => false
theorem no_iff {G : Hp} {v : V} {d : PyData} (h : R3 G v d) : decide (v = .non) = isNo d := by cases h <;> simp [isNo]
def dIsN : PyData → PyData → (PyData → Prop) → Prop := fun d e Q => e = .none ∧ Q (.bool (isNo d))
def dNotN : PyData → PyData → (PyData → Prop) → Prop := fun d e Q => e = .none ∧ Q (.bool (!isNo d))
theorem lift_isN : Lift2 C (fun x y H Q => y = .non ∧ Q (.bl (decide (x = .non))) H) dIsN := fun N H x y d e QD Q m gl rx ry q hQ => by
  obtain ⟨rfl, q⟩ := q
  cases ry
  exact ⟨rfl, by rw [no_iff rx]; exact hQ _ H _ q GoN.refl gl (.bl _)⟩
theorem lift_notN : Lift2 C (fun x y H Q => y = .non ∧ Q (.bl (!decide (x = .non))) H) dNotN := fun N H x y d e QD Q m gl rx ry q hQ => by
  obtain ⟨rfl, q⟩ := q
  cases ry
  exact ⟨rfl, by rw [no_iff rx]; exact hQ _ H _ q GoN.refl gl (.bl _)⟩
/-- an item -/
def dIx : PyData → PyData → (PyData → Prop) → Prop := fun d e Q => ∃ ds i c, (d = .list ds ∨ d = .tuple ds) ∧ e = .int i ∧ atI ds i = some c ∧ Q c
theorem atI_of {G : Hp} {ds : List PyData} {vs : List V} {i : Int} {c : PyData} (h : R3s G vs ds) (e : atI ds i = some c) : ∃ v, atI vs i = some v ∧ R3 G v c := by
  unfold atI at e ⊢
  rw [r3s_len h]
  cases q : ixN ds.length i with
  | none => rw [q] at e; cases e
  | some j =>
    rw [q] at e
    exact r3s_get h e
theorem lift_ix {K : PySem.W.Frag} : Lift2 C (rIx K) dIx := fun N H x y d e QD Q m gl rx ry q hQ => by
  obtain ⟨ds, i, c, hd, rfl, hi, q⟩ := q
  cases ry
  rcases hd with rfl | rfl
  · cases rx with
    | @lst a us _ ha hu =>
      obtain ⟨v, h1, h2⟩ := atI_of hu hi
      exact .inl ⟨a, us, i, v, rfl, rfl, .of (wo_some ha).2, h1, hQ v H c q GoN.refl gl h2⟩
  · cases rx with
    | @tup a us _ ha hu =>
      obtain ⟨v, h1, h2⟩ := atI_of hu hi
      exact .inr (.inl ⟨a, us, i, v, rfl, rfl, .of (wo_some ha).2, h1, hQ v H c q GoN.refl gl h2⟩)
end
section
variable {X : Cx} {C : C3} {a b c : Expr} {ta tb tc : TE} {τa τb τc : TD} {pos : Pos}
theorem q_var (i : Nat) {x : Str} {pos : Pos} (hN : X.N[i]? = some x := by rfl) (hv : Vis X.env.scope x := by first | exact Or.inl rfl | exact Or.inr (Or.inl rfl) | exact Or.inr (Or.inr rfl)) (hd : (x == ("__debug__" : Str)) = false := by decide)
    (hcd : (x == ("__classdict__" : Str)) = false := by decide) : PDE X C (.Name x pos) (tVar i) (dVar i) := ⟨pe_var hN hv hd hcd, snd_var i⟩
theorem q_int {i j pos} : PDE X C (.Constant (.int i) j pos) (tC (.int i)) (dC (.int i)) := ⟨pe_int, snd_c fun _ => .int _⟩
theorem q_bl {i j pos} : PDE X C (.Constant (.bool i) j pos) (tC (.bl i)) (dC (.bool i)) := ⟨pe_bl, snd_c fun _ => .bl _⟩
theorem q_non {j pos} : PDE X C (.Constant .none j pos) (tC .non) (dC .none) := ⟨pe_non, snd_c fun _ => .non⟩
theorem q_glob {x : Str} {i : Int} {t : Tok} (hg : Gl X x) (hm : X.mg x = some (.int i t)) (hd : (x == ("__debug__" : Str)) = false := by decide) : PDE X C (.Name x pos) (tC (.int i)) (dC (.int i)) := ⟨pe_glob hg hm ⟨t, rfl⟩ hd, snd_c fun _ => .int _⟩
theorem qa_nil : PDA X C [] tNil dNil := ⟨pa_nil, snd_nil⟩
theorem qa_cons {e : Expr} {es : List Expr} {te : TE} {t : TA} {τe : TD} {τ : TAd} (ha : PDE X C e te τe) (hr : PDA X C es t τ) (hs : starEach (e :: es) X.env = (false, eval e X.env) :: starEach es X.env := by rfl) : PDA X C (e :: es) (tCons te t) (dCons τe τ) := ⟨pa_cons ha.pe hr.pa hs, snd_cons ha.snd hr.snd⟩
theorem q_tup {es : List Expr} {t : TA} {τ : TAd} {x1} (h : PDA X C es t τ) : PDE X C (.Tuple es x1 pos) (tTup t) (dTup τ) := ⟨pe_tup h.pa, snd_tup h.snd⟩
theorem q_lst {es : List Expr} {t : TA} {τ : TAd} (h : PDA X C es t τ) : PDE X C (.List es pos) (tLst t) (dLst τ) := ⟨pe_lst h.pa, snd_lst h.snd⟩
theorem q_add (ha : PDE X C a ta τa) (hb : PDE X C b tb τb) : PDE X C (.BinOp a .Add b pos) (tOp (rI0 fun i j => .int (i + j)) ta tb) (dOp (dI fun i j => .int (i + j)) τa τb) := ⟨pe_op op_add ha.pe hb.pe, snd_op (lift_i fun _ _ _ => .int _) ha.snd hb.snd⟩
theorem q_sub (ha : PDE X C a ta τa) (hb : PDE X C b tb τb) : PDE X C (.BinOp a .Sub b pos) (tOp (rI0 fun i j => .int (i - j)) ta tb) (dOp (dI fun i j => .int (i - j)) τa τb) := ⟨pe_op op_sub ha.pe hb.pe, snd_op (lift_i fun _ _ _ => .int _) ha.snd hb.snd⟩
theorem q_mul (ha : PDE X C a ta τa) (hb : PDE X C b tb τb) : PDE X C (.BinOp a .Mult b pos) (tOp (rI CMul fun i j => .int (i * j)) ta tb) (dOp (dIc CMul fun i j => .int (i * j)) τa τb) := ⟨pe_op op_mul ha.pe hb.pe, snd_op (lift_ic fun _ _ _ => .int _) ha.snd hb.snd⟩
theorem q_mod (ha : PDE X C a ta τa) (hb : PDE X C b tb τb) : PDE X C (.BinOp a .Mod b pos) (tOp (rI (fun _ j => 0 < j) fun i j => .int (i % j)) ta tb) (dOp (dIc (fun _ j => 0 < j) fun i j => .int (i % j)) τa τb) := ⟨pe_op op_mod ha.pe hb.pe, snd_op (lift_ic fun _ _ _ => .int _) ha.snd hb.snd⟩
theorem q_fdiv (ha : PDE X C a ta τa) (hb : PDE X C b tb τb) : PDE X C (.BinOp a .FloorDiv b pos) (tOp (rI CDiv fun i j => .int (i / j)) ta tb) (dOp (dIc CDiv fun i j => .int (i / j)) τa τb) := ⟨pe_op op_fdiv ha.pe hb.pe, snd_op (lift_ic fun _ _ _ => .int _) ha.snd hb.snd⟩
theorem q_cat (ha : PDE X C a ta τa) (hb : PDE X C b tb τb) : PDE X C (.BinOp a .Add b pos) (tOp (rCatA X.K) ta tb) (dOp dCat τa τb) := ⟨pe_op op_catA ha.pe hb.pe, snd_op lift_cat ha.snd hb.snd⟩
theorem q_catL (ha : PDE X C a ta τa) (hb : PDE X C b tb τb) : PDE X C (.BinOp a .Add b pos) (tOp rCat ta tb) (dOp dCatL τa τb) := ⟨pe_op op_cat ha.pe hb.pe, snd_op lift_catL ha.snd hb.snd⟩
theorem lift_rep : Lift2 C rRep dRep := fun N H x y d e QD Q m gl rx ry q hQ => by
  obtain ⟨c, k, rfl, rfl, hk, q⟩ := q
  cases ry
  cases rx with
  | @lst a us _ ha hu =>
    cases hu with
    | cons h1 h2 =>
      cases h2
      refine ⟨a, k, _, rfl, rfl, (wo_some ha).2, by omega, by omega, by rw [List.length_singleton, Nat.one_mul]; exact few (by omega), fun p hp => ?_⟩
      obtain ⟨a1, g1, w1, s1⟩ := lay m gl (o := .lst (List.replicate k _)) hp
      have e1 : ((k : Nat) : Int).toNat = k := by omega
      rw [e1, flat_rep]
      exact hQ _ _ _ q a1 g1 (.lst w1 (r3s_rep (r3_sub s1 _ _ h1) k))
theorem q_rep (ha : PDE X C a ta τa) (hb : PDE X C b tb τb) : PDE X C (.BinOp a .Mult b pos) (tOp rRep ta tb) (dOp dRep τa τb) := ⟨pe_op op_rep ha.pe hb.pe, snd_op lift_rep ha.snd hb.snd⟩

/-! comparisons, as values and as tests -/
def dTest (τ : TD) : TTd := fun ρ Q => τ ρ fun d => ∃ k, d = .bool k ∧ Q k
theorem snd_test {t : TE} {τ : TD} (h : Snd C t τ) : SndT C (tTest t) (dTest τ) := fun N am H σ ρ QD Q e q hQ =>
  h N am H σ ρ _ _ e q fun v H1 d ⟨k, ek, q1⟩ a g r => by
    subst ek
    cases r
    exact ⟨k, rfl, hQ k H1 q1 a g⟩
theorem qt_val {e : Expr} {t : TE} {τ : TD} (h : PDE X C e t τ) (he : ∀ whole, isTrue e X.env whole = (do let v ← whole; standAt e.pos; holding [v] (truthy v)) := by intro _; rfl) : PDT X C e (tB t) (dTest τ) := ⟨pt_val h.pe he, snd_test h.snd⟩
theorem q_cmp {op : CmpOp} {r : R2} {ψ : PyData → PyData → (PyData → Prop) → Prop} (ho : OpR X (compareOp op) r) (hr : Lift2 C r ψ) (h1 : op ≠ .In := by decide) (h2 : op ≠ .NotIn := by decide) (ha : PDE X C a ta τa) (hb : PDE X C b tb τb) : PDE X C (.Compare a [op] [b] pos) (tOp r ta tb) (dOp ψ τa τb) := ⟨pe_cmpR ho ha.pe hb.pe (nomark _ h1 h2), snd_op hr ha.snd hb.snd⟩
theorem qt_cmp {op : CmpOp} {r : R2} {ψ : PyData → PyData → (PyData → Prop) → Prop} (ho : OpR X (compareOp op) r) (hr : Lift2 C r ψ) (h1 : op ≠ .In := by decide) (h2 : op ≠ .NotIn := by decide) (ha : PDE X C a ta τa) (hb : PDE X C b tb τb) : PDT X C (.Compare a [op] [b] pos) (tTest (tOp r ta tb)) (dTest (dOp ψ τa τb)) := ⟨pt_cmpR ho ha.pe hb.pe (nomark _ h1 h2), snd_test (snd_op hr ha.snd hb.snd)⟩
theorem l_lt : Lift2 C (rI0 fun i j => .bl (decide (i < j))) (dI fun i j => .bool (decide (i < j))) := lift_i fun _ _ _ => .bl _
theorem l_le : Lift2 C (rI0 fun i j => .bl (decide (i ≤ j))) (dI fun i j => .bool (decide (i ≤ j))) := lift_i fun _ _ _ => .bl _
theorem l_gt : Lift2 C (rI0 fun i j => .bl (decide (j < i))) (dI fun i j => .bool (decide (j < i))) := lift_i fun _ _ _ => .bl _
theorem l_ge : Lift2 C (rI0 fun i j => .bl (decide (j ≤ i))) (dI fun i j => .bool (decide (j ≤ i))) := lift_i fun _ _ _ => .bl _
/-- == and != of ints -/
theorem l_eqI : Lift2 C rEq (dI fun i j => .bool (decide (i = j))) := fun N H x y d e QD Q m gl rx ry q hQ => by
  obtain ⟨i, j, rfl, rfl, q⟩ := q
  cases rx
  cases ry
  have e1 : decide ((V.int i) = V.int j) = decide (i = j) := by
    by_cases h : i = j
    · subst h; simp
    · rw [decide_eq_false h, decide_eq_false fun z => h (V.int.inj z)]
  exact ⟨rfl, by rw [e1]; exact hQ _ H _ q GoN.refl gl (.bl _)⟩
theorem l_neI : Lift2 C rNe (dI fun i j => .bool (!decide (i = j))) := fun N H x y d e QD Q m gl rx ry q hQ => by
  obtain ⟨i, j, rfl, rfl, q⟩ := q
  cases rx
  cases ry
  have e1 : decide ((V.int i) = V.int j) = decide (i = j) := by
    by_cases h : i = j
    · subst h; simp
    · rw [decide_eq_false h, decide_eq_false fun z => h (V.int.inj z)]
  exact ⟨rfl, by rw [e1]; exact hQ _ H _ q GoN.refl gl (.bl _)⟩
/-- a op b op' c -/
def dChain (ψ ψ' : PyData → PyData → (PyData → Prop) → Prop) (τa τb τc : TD) : TD := fun ρ Q => τa ρ fun d => τb ρ fun e => ψ d e fun k => ∃ b, k = .bool b ∧ if b = true then τc ρ fun f => ψ' e f Q else Q (.bool false)
theorem snd_chain {r r' : R2} {ψ ψ' : PyData → PyData → (PyData → Prop) → Prop} (hr : Lift2 C r ψ) (hr' : Lift2 C r' ψ') (ha : Snd C ta τa) (hb : Snd C tb τb) (hc : Snd C tc τc) : Snd C (tChain r r' ta tb tc) (dChain ψ ψ' τa τb τc) := fun N am H σ ρ QD Q e h hQ =>
  ha N am H σ ρ _ _ e h fun v H1 d q a g rv => hb N am H1 σ ρ _ _ (e.go a g) q fun u H2 c q2 a2 g2 ru =>
    hr N H2 v u d c _ _ ((e.go a g).go a2 g2).mok g2 (r3_sub (sub_go e.mok.sub a2) _ _ rv) ru q2 fun w H3 c3 ⟨k, ek, q3⟩ a3 g3 r3 => by
      subst ek
      cases r3
      refine ⟨k, rfl, ?_⟩
      have e3 := ((e.go a g).go a2 g2).go a3 g3
      cases k with
      | false => exact iteF (hQ _ H3 _ (by rw [if_neg Bool.false_ne_true] at q3; exact q3) ((a.trans a2).trans a3) g3 (.bl _))
      | true =>
        rw [if_pos rfl] at q3
        refine iteT (hc N am H3 σ ρ _ _ e3 q3 fun x H4 c4 q4 a4 g4 r4 => ?_)
        exact hr' N H4 u x c c4 _ _ (e3.go a4 g4).mok g4 (r3_sub (sub_go e.mok.sub (a3.trans a4)) _ _ ru) r4 q4 fun w5 H5 c5 q5 a5 g5 r5 => hQ w5 H5 c5 q5 ((((a.trans a2).trans a3).trans a4).trans a5) g5 r5
theorem q_chain {op op' : CmpOp} {r r' : R2} {ψ ψ' : PyData → PyData → (PyData → Prop) → Prop} (ho : OpR X (compareOp op) r) (ho' : OpR X (compareOp op') r') (hr : Lift2 C r ψ) (hr' : Lift2 C r' ψ') (ha : PDE X C a ta τa) (hb : PDE X C b tb τb) (hc : PDE X C c tc τc)
    (hm : lastMarks [op, op'] [b, c] = false := by with_unfolding_all rfl) : PDE X C (.Compare a [op, op'] [b, c] pos) (tChain r r' ta tb tc) (dChain ψ ψ' τa τb τc) := ⟨pe_chain ho ho' ha.pe hb.pe hc.pe hm, snd_chain hr hr' ha.snd hb.snd hc.snd⟩
theorem qt_chain {op op' : CmpOp} {r r' : R2} {ψ ψ' : PyData → PyData → (PyData → Prop) → Prop} (ho : OpR X (compareOp op) r) (ho' : OpR X (compareOp op') r') (hr : Lift2 C r ψ) (hr' : Lift2 C r' ψ') (ha : PDE X C a ta τa) (hb : PDE X C b tb τb) (hc : PDE X C c tc τc)
    (hm : lastMarks [op, op'] [b, c] = false := by with_unfolding_all rfl) : PDT X C (.Compare a [op, op'] [b, c] pos) (tTest (tChain r r' ta tb tc)) (dTest (dChain ψ ψ' τa τb τc)) := ⟨pt_chain ho ho' ha.pe hb.pe hc.pe hm, snd_test (snd_chain hr hr' ha.snd hb.snd hc.snd)⟩

/-! and, or, not -/
def dAnd (t u : TTd) : TTd := fun ρ Q => t ρ fun c => if c = true then u ρ Q else Q false
def dOr (t u : TTd) : TTd := fun ρ Q => t ρ fun c => if c = true then Q true else u ρ Q
def dNot (t : TTd) : TTd := fun ρ Q => t ρ fun c => Q (!c)
theorem snd_and {t u : TT} {τ υ : TTd} (h : SndT C t τ) (h' : SndT C u υ) : SndT C (tAnd t u) (dAnd τ υ) := fun N am H σ ρ QD Q e q hQ =>
  h N am H σ ρ _ _ e q fun b H1 q1 a g => by
    cases b with
    | true => exact iteT (h' N am H1 σ ρ _ _ (e.go a g) (by rw [if_pos rfl] at q1; exact q1) fun c H2 q2 a2 g2 => hQ c H2 q2 (a.trans a2) g2)
    | false => exact iteF (hQ _ _ (by rw [if_neg Bool.false_ne_true] at q1; exact q1) a g)
theorem snd_or {t u : TT} {τ υ : TTd} (h : SndT C t τ) (h' : SndT C u υ) : SndT C (tOr t u) (dOr τ υ) := fun N am H σ ρ QD Q e q hQ =>
  h N am H σ ρ _ _ e q fun b H1 q1 a g => by
    cases b with
    | false => exact iteF (h' N am H1 σ ρ _ _ (e.go a g) (by rw [if_neg Bool.false_ne_true] at q1; exact q1) fun c H2 q2 a2 g2 => hQ c H2 q2 (a.trans a2) g2)
    | true => exact iteT (hQ _ _ (by rw [if_pos rfl] at q1; exact q1) a g)
theorem snd_not {t : TT} {τ : TTd} (h : SndT C t τ) : SndT C (tNot t) (dNot τ) := fun N am H σ ρ QD Q e q hQ => h N am H σ ρ _ _ e q fun b H1 q1 a g => hQ _ H1 q1 a g
theorem PDW.pdt {e : Expr} {t : TT} {τ : TTd} (h : PDW X C e t τ) : PDT X C e t τ := ⟨h.pw.pt, h.snd⟩
section
variable {tA tB' : TT} {υA υB : TTd} {rest : List Expr}
theorem qw_and1 (ha : PDT X C a tA υA) : PDW X C (.BoolOp .And [a] pos) tA υA := ⟨pw_and1 ha.pt, ha.snd⟩
theorem qw_or1 (ha : PDT X C a tA υA) : PDW X C (.BoolOp .Or [a] pos) tA υA := ⟨pw_or1 ha.pt, ha.snd⟩
theorem qw_and (ha : PDT X C a tA υA) (hb : PDW X C (.BoolOp .And (b :: rest) pos) tB' υB) : PDW X C (.BoolOp .And (a :: b :: rest) pos) (tAnd tA tB') (dAnd υA υB) := ⟨pw_and ha.pt hb.pw, snd_and ha.snd hb.snd⟩
theorem qw_or (ha : PDT X C a tA υA) (hb : PDW X C (.BoolOp .Or (b :: rest) pos) tB' υB) : PDW X C (.BoolOp .Or (a :: b :: rest) pos) (tOr tA tB') (dOr υA υB) := ⟨pw_or ha.pt hb.pw, snd_or ha.snd hb.snd⟩
theorem qt_not (ha : PDT X C a tA υA) : PDT X C (.UnaryOp .Not a pos) (tNot tA) (dNot υA) := ⟨pt_not ha.pt, snd_not ha.snd⟩
def dAndV (ta tb : TD) : TD := fun ρ Q => ta ρ fun d => ∃ c, d = .bool c ∧ if c = true then tb ρ Q else Q (.bool false)
def dOrV (ta tb : TD) : TD := fun ρ Q => ta ρ fun d => ∃ c, d = .bool c ∧ if c = true then Q (.bool true) else tb ρ Q
def dNotV (ta : TD) : TD := fun ρ Q => ta ρ fun d => ∃ c, d = .bool c ∧ Q (.bool (!c))
theorem q_one {op} (h : PDE X C a ta τa) : PDE X C (.BoolOp op [a] pos) ta τa := ⟨pe_one h.pe, h.snd⟩
theorem snd_andV (h : Snd C ta τa) (h' : Snd C tb τb) : Snd C (tAndV ta tb) (dAndV τa τb) := fun N am H σ ρ QD Q e q hQ =>
  h N am H σ ρ _ _ e q fun v H1 d ⟨c, ec, q1⟩ a g r => by
    subst ec
    cases r
    refine ⟨c, rfl, ?_⟩
    cases c with
    | true => exact iteT (h' N am H1 σ ρ _ _ (e.go a g) (by rw [if_pos rfl] at q1; exact q1) fun c H2 d2 q2 a2 g2 => hQ c H2 d2 q2 (a.trans a2) g2)
    | false => exact iteF (hQ _ _ _ (by rw [if_neg Bool.false_ne_true] at q1; exact q1) a g (.bl _))
theorem snd_orV (h : Snd C ta τa) (h' : Snd C tb τb) : Snd C (tOrV ta tb) (dOrV τa τb) := fun N am H σ ρ QD Q e q hQ =>
  h N am H σ ρ _ _ e q fun v H1 d ⟨c, ec, q1⟩ a g r => by
    subst ec
    cases r
    refine ⟨c, rfl, ?_⟩
    cases c with
    | false => exact iteF (h' N am H1 σ ρ _ _ (e.go a g) (by rw [if_neg Bool.false_ne_true] at q1; exact q1) fun c H2 d2 q2 a2 g2 => hQ c H2 d2 q2 (a.trans a2) g2)
    | true => exact iteT (hQ _ _ _ (by rw [if_pos rfl] at q1; exact q1) a g (.bl _))
theorem snd_notV (h : Snd C ta τa) : Snd C (tNotV ta) (dNotV τa) := fun N am H σ ρ QD Q e q hQ =>
  h N am H σ ρ _ _ e q fun v H1 d ⟨c, ec, q1⟩ a g r => by
    subst ec
    cases r
    exact ⟨c, rfl, hQ _ H1 _ q1 a g (.bl _)⟩
theorem q_and (ha : PDE X C a ta τa) (hb : PDE X C (.BoolOp .And (b :: rest) pos) tb τb) : PDE X C (.BoolOp .And (a :: b :: rest) pos) (tAndV ta tb) (dAndV τa τb) := ⟨pe_and ha.pe hb.pe, snd_andV ha.snd hb.snd⟩
theorem q_or (ha : PDE X C a ta τa) (hb : PDE X C (.BoolOp .Or (b :: rest) pos) tb τb) : PDE X C (.BoolOp .Or (a :: b :: rest) pos) (tOrV ta tb) (dOrV τa τb) := ⟨pe_or ha.pe hb.pe, snd_orV ha.snd hb.snd⟩
theorem q_not (ha : PDE X C a ta τa) : PDE X C (.UnaryOp .Not a pos) (tNotV ta) (dNotV τa) := ⟨pe_not ha.pe, snd_notV ha.snd⟩
def dIf (t : TTd) (ta tb : TD) : TD := fun ρ Q => t ρ fun c => if c = true then ta ρ Q else tb ρ Q
theorem q_ifExp (hc : PDT X C c tA υA) (ha : PDE X C a ta τa) (hb : PDE X C b tb τb) : PDE X C (.IfExp c a b pos) (tIf tA ta tb) (dIf υA τa τb) := by
  refine ⟨pe_ifExp hc.pt ha.pe hb.pe, fun N am H σ ρ QD Q e q hQ => hc.snd N am H σ ρ _ _ e q fun b H1 q1 a g => ?_⟩
  cases b with
  | true => exact iteT (ha.snd N am H1 σ ρ _ _ (e.go a g) (by rw [if_pos rfl] at q1; exact q1) fun c H2 d2 q2 a2 g2 => hQ c H2 d2 q2 (a.trans a2) g2)
  | false => exact iteF (hb.snd N am H1 σ ρ _ _ (e.go a g) (by rw [if_neg Bool.false_ne_true] at q1; exact q1) fun c H2 d2 q2 a2 g2 => hQ c H2 d2 q2 (a.trans a2) g2)
end

/-! subscripts -/
theorem q_ix (ha : PDE X C a ta τa) (hb : PDE X C b tb τb) (hs : PlainIx b := by exact fun _ _ => rfl) : PDE X C (.Subscript a b pos) (tOp (rIx X.K) ta tb) (dOp dIx τa τb) := ⟨pe_ix ix_seq ha.pe hb.pe hs, snd_op lift_ix ha.snd hb.snd⟩
abbrev TOd := Env3 → (Option Int → Prop) → Prop
def SndO (C : C3) (t : TO) (τ : TOd) : Prop := ∀ (N : Msk) (am : Nat → Option Addr) (H : Hp) (σ : L2.St) (ρ : Env3) (QD : Option Int → Prop) (Q : Option Int → Hp → Prop), EnvA C N am H σ ρ → τ ρ QD →
  (∀ b H', QD b → Go C H H' → Glob C H' → Q b H') → t σ H Q
structure PDO (X : Cx) (C : C3) (e : Option Expr) (t : TO) (τ : TOd) : Prop where
  po : PO X e t
  snd : SndO C t τ
def dNoPart : TOd := fun _ Q => Q none
def dPart (τ : TD) : TOd := fun ρ Q => τ ρ fun d => ∃ i, d = .int i ∧ Q (some i)
theorem qo_none : PDO X C none tNoPart dNoPart := ⟨po_none, fun N am H σ ρ QD Q e q hQ => hQ _ H q GoN.refl e.glob⟩
theorem qo_some (h : PDE X C a ta τa) : PDO X C (some a) (tPart ta) (dPart τa) := ⟨po_some h.pe, fun N am H σ ρ QD Q e q hQ => h.snd N am H σ ρ _ _ e q fun v H1 d ⟨i, ei, q1⟩ a g r => by
  subst ei
  cases r
  exact ⟨i, rfl, hQ _ H1 q1 a g⟩⟩
/-- xs[lo:hi] of data -/
def cutD (xs : List PyData) (lo hi : Option Int) : List PyData := (xs.drop (HT.sIx xs.length 0 lo)).take (HT.sIx xs.length xs.length hi - HT.sIx xs.length 0 lo)
theorem r3s_cut {G : Hp} {ds : List PyData} {vs : List V} (h : R3s G vs ds) (lo hi : Option Int) : R3s G (cutV vs lo hi) (cutD ds lo hi) := by
  unfold cutV cutD
  rw [r3s_len h]
  exact r3s_take _ (r3s_drop _ h)
def dSlT (τ : TD) (l h : TOd) : TD := fun ρ Q => τ ρ fun d => l ρ fun lo => h ρ fun hi => ∃ xs, d = .tuple xs ∧ Q (.tuple (cutD xs lo hi))
def dSlL (τ : TD) (l h : TOd) : TD := fun ρ Q => τ ρ fun d => l ρ fun lo => h ρ fun hi => ∃ xs, d = .list xs ∧ Q (.list (cutD xs lo hi))
theorem cutD_whole {xs : List PyData} {lo hi : Option Int} (h : HT.sIx xs.length 0 lo = 0 ∧ HT.sIx xs.length xs.length hi = xs.length) : cutD xs lo hi = xs := by
  unfold cutD
  rw [h.1, h.2, List.drop_zero, Nat.sub_zero, List.take_length]
theorem q_slT {lo hi : Option Expr} {tl th : TO} {τl τh : TOd} {p2 : Pos} (he : PDE X C a ta τa) (hl : PDO X C lo tl τl) (hu : PDO X C hi th τh) : PDE X C (.Subscript a (.Slice lo hi none p2) pos) (tSl (rSlA X.K) ta tl th) (dSlT τa τl τh) := by
  refine ⟨pe_slice sl_tupA he.pe hl.po hu.po, fun N am H σ ρ QD Q e q hQ => he.snd N am H σ ρ _ _ e q fun v H1 d q1 a g r => hl.snd N am H1 σ ρ _ _ (e.go a g) q1 fun lo H2 q2 a2 g2 => hu.snd N am H2 σ ρ _ _ ((e.go a g).go a2 g2) q2 fun hi H3 q3 a3 g3 => ?_⟩
  obtain ⟨xs, rfl, q4⟩ := q3
  have r' := r3_sub (sub_go e.mok.sub (a2.trans a3)) _ _ r
  have e3 := ((e.go a g).go a2 g2).go a3 g3
  cases r' with
  | @tup b us _ hb hu =>
    have hl := r3s_len hu
    refine ⟨b, us, rfl, .of (wo_some hb).2, fun w => ?_, fun w p hp => ?_⟩
    · rw [hl] at w
      rw [cutD_whole w] at q4
      exact hQ _ _ _ q4 ((a.trans a2).trans a3) g3 (.tup hb hu)
    · obtain ⟨a4, g4, w4, s4⟩ := lay e3.mok g3 (o := .tup (cutV us lo hi)) hp
      exact hQ _ _ _ q4 (((a.trans a2).trans a3).trans a4) g4 (.tup w4 (r3s_cut (r3s_sub s4 _ _ hu) lo hi))
theorem q_slL {lo hi : Option Expr} {tl th : TO} {τl τh : TOd} {p2 : Pos} (he : PDE X C a ta τa) (hl : PDO X C lo tl τl) (hu : PDO X C hi th τh) : PDE X C (.Subscript a (.Slice lo hi none p2) pos) (tSl (rSlL X.K) ta tl th) (dSlL τa τl τh) := by
  refine ⟨pe_slice sl_list he.pe hl.po hu.po, fun N am H σ ρ QD Q e q hQ => he.snd N am H σ ρ _ _ e q fun v H1 d q1 a g r => hl.snd N am H1 σ ρ _ _ (e.go a g) q1 fun lo H2 q2 a2 g2 => hu.snd N am H2 σ ρ _ _ ((e.go a g).go a2 g2) q2 fun hi H3 q3 a3 g3 => ?_⟩
  obtain ⟨xs, rfl, q4⟩ := q3
  have r' := r3_sub (sub_go e.mok.sub (a2.trans a3)) _ _ r
  have e3 := ((e.go a g).go a2 g2).go a3 g3
  cases r' with
  | @lst b us _ hb hu =>
    refine ⟨b, us, rfl, .of (wo_some hb).2, fun p hp => ?_⟩
    obtain ⟨a4, g4, w4, s4⟩ := lay e3.mok g3 (o := .lst (cutV us lo hi)) hp
    exact hQ _ _ _ q4 (((a.trans a2).trans a3).trans a4) g4 (.lst w4 (r3s_cut (r3s_sub s4 _ _ hu) lo hi))
end
end L3
namespace L3
open PySem L2
open PySem.Spec
/-! ### statements -/
structure DE where
  nx : Env3 → Prop
  rt : PyData → Prop
  bk : Env3 → Prop := fun _ => False
  ct : Env3 → Prop := fun _ => False
abbrev TSd := DE → Env3 → Prop
def mkN (M0 : Msk) (am : Nat → Option Addr) : Msk := fun a => M0 a ∨ ∃ i, am i = some a
abbrev Bs := List (Hp × Msk)
structure SA (C : C3) (M0 : Msk) (B : Bs) (am : Nat → Option Addr) (H : Hp) (σ : L2.St) (ρ : Env3) : Prop where
  env : EnvA C (mkN M0 am) am H σ ρ
  out : ∀ i a, am i = some a → ¬ M0 a
  base : ∀ p ∈ B, GoN p.2 p.1 H ∧ (∀ a, C.W a → p.2 a) ∧ ∀ i a, am i = some a → p.2 a ∨ p.1 a = none
def S3 (C : C3) (M0 : Msk) (B : Bs) (H : Hp) (σ : L2.St) (ρ : Env3) : Prop := ∃ am, SA C M0 B am H σ ρ
structure Link (C : C3) (M0 : Msk) (B : Bs) (D : DE) (E : Ends) : Prop where
  nx : ∀ σ H ρ, S3 C M0 B H σ ρ → D.nx ρ → E.nx σ H
  rt : ∀ v H d, D.rt d → (∀ p ∈ B, GoN p.2 p.1 H) → Glob C H → Mok C M0 H → R3 (wo H M0) v d → E.rt v H
  bk : ∀ σ H ρ, S3 C M0 B H σ ρ → D.bk ρ → E.bk σ H
  ct : ∀ σ H ρ, S3 C M0 B H σ ρ → D.ct ρ → E.ct σ H
def SndS (C : C3) (t : TS) (τ : TSd) : Prop := ∀ (M0 : Msk) (B : Bs) (H : Hp) (σ : L2.St) (ρ : Env3) (D : DE) (E : Ends), (∀ a, C.W a → M0 a) → S3 C M0 B H σ ρ → Link C M0 B D E → τ D ρ → t E σ H
structure PDS (X : Cx) (C : C3) (st : Stmt) (t : TS) (τ : TSd) : Prop where
  ps : PS X st t
  snd : SndS C t τ
structure PDSs (X : Cx) (C : C3) (st : List Stmt) (t : TS) (τ : TSd) : Prop where
  ps : PSs X st t
  snd : SndS C t τ
section
variable {C : C3} {M0 : Msk} {B : Bs} {am : Nat → Option Addr} {H H' : Hp} {σ : L2.St} {ρ : Env3}
theorem SA.go (s : SA C M0 B am H σ ρ) (a : Go C H H') (g : Glob C H') : SA C M0 B am H' σ ρ :=
  ⟨s.env.go a g, s.out, fun p hp => by
    obtain ⟨h1, h2, h3⟩ := s.base p hp
    exact ⟨h1.trans (a.mono h2), h2, h3⟩⟩
theorem SA.mok0 (s : SA C M0 B am H σ ρ) (w : ∀ a, C.W a → M0 a) : Mok C M0 H := ⟨w, fun a n => s.env.mok.dom a (.inl n)⟩
/-- the ids of slot i are given up -/
def offs (am : Nat → Option Addr) (i : Nat) : Nat → Option Addr := fun j => if j = 2 * i ∨ j = 2 * i + 1 then none else am j
theorem offs_some {am : Nat → Option Addr} {i j : Nat} {a : Addr} (h : offs am i j = some a) : am j = some a ∧ j ≠ 2 * i ∧ j ≠ 2 * i + 1 := by
  unfold offs at h
  by_cases q : j = 2 * i ∨ j = 2 * i + 1
  · rw [if_pos q] at h
    cases h
  · rw [if_neg q] at h
    exact ⟨h, fun z => q (.inl z), fun z => q (.inr z)⟩
theorem offs_ne {am : Nat → Option Addr} {i j : Nat} (h1 : j ≠ 2 * i) (h2 : j ≠ 2 * i + 1) : offs am i j = am j := by
  unfold offs
  rw [if_neg fun q => q.elim h1 h2]
theorem mkN_offs {i : Nat} (a : Addr) (h : mkN M0 (offs am i) a) : mkN M0 am a := by
  rcases h with h | ⟨j, h⟩
  · exact .inl h
  · exact .inr ⟨j, (offs_some h).1⟩
theorem cell_offs {i j : Nat} {N N' : Msk} {σ' : L2.St} {c : Cell} (hj : j ≠ i) (hs : σ'[j]? = σ[j]?) (sub : Sub (wo H N) (wo H N')) (h : CellOk N am H σ j c) : CellOk N' (offs am i) H σ' j c := by
  cases c with
  | un => exact h
  | dat d =>
    obtain ⟨v, h1, h2⟩ := h
    exact ⟨v, hs.trans h1, r3_sub sub _ _ h2⟩
  | own ds =>
    obtain ⟨a, vs, h1, h2, h3, h4⟩ := h
    exact ⟨a, vs, (offs_ne (by omega) (by omega)).trans h1, hs.trans h2, h3, r3s_sub sub _ _ h4⟩
  | own2 ds es =>
    obtain ⟨t, b, c, vs, us, h1, h2, h3, h4, h5, h6, h7, h8⟩ := h
    exact ⟨t, b, c, vs, us, (offs_ne (by omega) (by omega)).trans h1, (offs_ne (by omega) (by omega)).trans h2, hs.trans h3, sub _ _ h4 (by intro _ z; cases z), h5, h6, r3s_sub sub _ _ h7, r3s_sub sub _ _ h8⟩
  | val v => exact hs.trans h
theorem mok_sub {N N' : Msk} (m : Mok C N H) (h : ∀ a, N' a → N a) (w : ∀ a, C.W a → N' a) : Mok C N' H := ⟨w, fun a n => m.dom a (h a n)⟩
theorem mkN_W (s : SA C M0 B am H σ ρ) {am' : Nat → Option Addr} (a : Addr) (w : C.W a) : mkN M0 am' a := by
  rcases s.env.mok.sub a w with h | ⟨i, h⟩
  · exact .inl h
  · exact absurd w (s.env.amN i a h).2.1
/-- slot i gets a value that stands for data, or any value -/
theorem SA.drop (s : SA C M0 B am H σ ρ) {i : Nat} {v : V} {c : Cell} (hi : i < σ.length) (hc : CellOk (mkN M0 (offs am i)) (offs am i) H (σ.set i (some v)) i c) : SA C M0 B (offs am i) H (σ.set i (some v)) (ρ.set i c) := by
  have sub : Sub (wo H (mkN M0 am)) (wo H (mkN M0 (offs am i))) := sub_less mkN_offs
  refine ⟨⟨mok_sub s.env.mok mkN_offs fun a w => mkN_W s a w, s.env.glob, by rw [List.length_set, List.length_set]; exact s.env.len, fun j k e => ?_, fun j a e => ?_, fun j k a e1 e2 => s.env.inj j k a (offs_some e1).1 (offs_some e2).1⟩, fun j a e => s.out j a (offs_some e).1, fun p hp => ?_⟩
  · by_cases hj : j = i
    · subst hj
      rw [List.getElem?_set_self (by rw [s.env.len]; exact hi)] at e
      cases e
      exact hc
    · rw [List.getElem?_set_ne (Ne.symm hj)] at e
      exact cell_offs hj (List.getElem?_set_ne (Ne.symm hj)) sub (s.env.sl j k e)
  · obtain ⟨h1, h2, h3⟩ := s.env.amN j a (offs_some e).1
    exact ⟨.inr ⟨j, e⟩, h2, h3⟩
  · obtain ⟨h1, h2, h3⟩ := s.base p hp
    exact ⟨h1, h2, fun j a e => h3 j a (offs_some e).1⟩
/-- slot i gets a value -/
theorem EnvA.put {N : Msk} (e : EnvA C N am H σ ρ) {i : Nat} {v : V} {c : Cell} (hi : i < σ.length) (hc : CellOk N am H (σ.set i (some v)) i c) : EnvA C N am H (σ.set i (some v)) (ρ.set i c) := by
  refine ⟨e.mok, e.glob, by rw [List.length_set, List.length_set]; exact e.len, fun j k q => ?_, e.amN, e.inj⟩
  by_cases hj : j = i
  · subst hj
    rw [List.getElem?_set_self (by rw [e.len]; exact hi)] at q
    cases q
    exact hc
  · rw [List.getElem?_set_ne (Ne.symm hj)] at q
    have k0 := e.sl j k q
    have hs : (σ.set i (some v))[j]? = σ[j]? := List.getElem?_set_ne (Ne.symm hj)
    cases k with
    | un => exact k0
    | dat d =>
      obtain ⟨v, h1, h2⟩ := k0
      exact ⟨v, hs.trans h1, h2⟩
    | own ds =>
      obtain ⟨a, vs, h1, h2, h3⟩ := k0
      exact ⟨a, vs, h1, hs.trans h2, h3⟩
    | own2 ds es =>
      obtain ⟨t, b, c, vs, us, h1, h2, h3, h4⟩ := k0
      exact ⟨t, b, c, vs, us, h1, h2, hs.trans h3, h4⟩
    | val v => exact hs.trans k0
theorem EnvA.putD {N : Msk} (e : EnvA C N am H σ ρ) {i : Nat} {v : V} {d : PyData} (hi : i < ρ.length) (r : R3 (wo H N) v d) : EnvA C N am H (σ.set i (some v)) (ρ.set i (.dat d)) :=
  have hi' : i < σ.length := by rw [← e.len]; exact hi
  e.put hi' ⟨v, List.getElem?_set_self hi', r⟩
theorem SA.putD (s : SA C M0 B am H σ ρ) {i : Nat} {v : V} {d : PyData} (hi : i < ρ.length) (r : R3 (wo H (mkN M0 am)) v d) : SA C M0 B am H (σ.set i (some v)) (ρ.set i (.dat d)) := ⟨s.env.putD hi r, s.out, s.base⟩
end

/-! blocks -/
def dNext : TSd := fun D ρ => D.nx ρ
def dSeq (t u : TSd) : TSd := fun D ρ => t { D with nx := u D } ρ
def dRet (t : TD) : TSd := fun D ρ => t ρ D.rt
def dDrop (t : TD) : TSd := fun D ρ => t ρ fun _ => D.nx ρ
def dIfS (c : TTd) (t u : TSd) : TSd := fun D ρ => c ρ fun b => if b = true then t D ρ else u D ρ
def dNever : TSd := fun _ _ => False
section
variable {X : Cx} {C : C3} {st : Stmt} {rest : List Stmt} {t u : TS} {τ υ : TSd} {e : Expr} {te : TE} {τe : TD} {pos : Pos}
theorem qss_nil : PDSs X C [] tNext dNext := ⟨pss_nil, fun M0 B H σ ρ D E w s l h => l.nx σ H ρ s h⟩
theorem qss_cons (h1 : PDS X C st t τ) (h2 : PDSs X C rest u υ) : PDSs X C (st :: rest) (tSeq t u) (dSeq τ υ) :=
  ⟨pss_cons h1.ps h2.ps, fun M0 B H σ ρ D E w s l h => h1.snd M0 B H σ ρ { D with nx := υ D } _ w s ⟨fun σ' H' ρ' s' h' => h2.snd M0 B H' σ' ρ' D E w s' l h', l.rt, l.bk, l.ct⟩ h⟩
theorem qss_one (h1 : PDS X C st t τ) : PDSs X C [st] t τ := ⟨pss_one h1.ps, h1.snd⟩
theorem qs_ret (he : PDE X C e te τe) : PDS X C (.Return (some e) pos) (tRet te) (dRet τe) :=
  ⟨ps_ret he.pe, fun M0 B H σ ρ D E w ⟨am, s⟩ l h => he.snd _ am H σ ρ _ _ s.env h fun v H1 d q a g r =>
    l.rt v H1 d q (fun p hp => ((s.go a g).base p hp).1) g ((s.go a g).mok0 w) (r3_sub (sub_less fun b n => .inl n) _ _ r)⟩
theorem qs_expr (he : PDE X C e te τe) (hs : swapsWith e none pos.line X.env = pure false := by rfl) : PDS X C (.Expr e pos) (tDrop te) (dDrop τe) :=
  ⟨ps_expr he.pe hs, fun M0 B H σ ρ D E w ⟨am, s⟩ l h => he.snd _ am H σ ρ _ _ s.env h fun v H1 d q a g r => l.nx σ H1 ρ ⟨am, s.go a g⟩ q⟩
theorem qs_if {c : Expr} {a b : List Stmt} {tc : TT} {υc : TTd} (hc : PDT X C c tc υc) (ha : PDSs X C a t τ) (hb : PDSs X C b u υ) : PDS X C (.If c a b pos) (tIfS tc t u) (dIfS υc τ υ) :=
  ⟨ps_if hc.pt ha.ps hb.ps, fun M0 B H σ ρ D E w ⟨am, s⟩ l h => hc.snd _ am H σ ρ _ _ s.env h fun k H1 q a g => by
    cases k with
    | true => exact iteT (ha.snd M0 B H1 σ ρ D E w ⟨am, s.go a g⟩ l (by rw [if_pos rfl] at q; exact q))
    | false => exact iteF (hb.snd M0 B H1 σ ρ D E w ⟨am, s.go a g⟩ l (by rw [if_neg Bool.false_ne_true] at q; exact q))⟩
theorem qs_never : PDS X C st tNever dNever := ⟨ps_never, fun _ _ _ _ _ _ _ _ _ _ h => h.elim⟩
theorem qss_never {sts : List Stmt} : PDSs X C sts tNever dNever := ⟨pss_never, fun _ _ _ _ _ _ _ _ _ _ h => h.elim⟩
end

/-! targets -/
abbrev TGd := PyData → Env3 → (Env3 → Prop) → Prop
abbrev TGsd := List PyData → Env3 → (Env3 → Prop) → Prop
def SndG (C : C3) (g : TG) (γ : TGd) : Prop := ∀ (N : Msk) (am : Nat → Option Addr) (H : Hp) (σ : L2.St) (ρ : Env3) (v : V) (d : PyData) (QD : Env3 → Prop) (Q : L2.St → Hp → Prop), EnvA C N am H σ ρ → R3 (wo H N) v d → γ d ρ QD →
  (∀ σ' ρ', EnvA C N am H σ' ρ' → QD ρ' → Q σ' H) → g v σ H Q
def SndGs (C : C3) (g : TGs) (γ : TGsd) : Prop := ∀ (N : Msk) (am : Nat → Option Addr) (H : Hp) (σ : L2.St) (ρ : Env3) (vs : List V) (ds : List PyData) (QD : Env3 → Prop) (Q : L2.St → Hp → Prop), EnvA C N am H σ ρ → R3s (wo H N) vs ds → γ ds ρ QD →
  (∀ σ' ρ', EnvA C N am H σ' ρ' → QD ρ' → Q σ' H) → g vs σ H Q
/-- the slots but ks stay -/
def Agree (ks : List Nat) (σ σ' : L2.St) : Prop := σ'.length = σ.length ∧ ∀ j, j ∉ ks → σ'[j]? = σ[j]?
def Keeps (g : TG) (ks : List Nat) : Prop := ∀ v σ H Q, g v σ H Q → g v σ H fun σ' H' => Q σ' H' ∧ Agree ks σ σ'
def Keepss (g : TGs) (ks : List Nat) : Prop := ∀ v σ H Q, g v σ H Q → g v σ H fun σ' H' => Q σ' H' ∧ Agree ks σ σ'
structure PDG (X : Cx) (C : C3) (tg : Expr) (g : TG) (γ : TGd) (ks : List Nat) : Prop where
  pg : PG X tg g
  snd : SndG C g γ
  kp : Keeps g ks
  mo : ∀ v σ H (Q Q' : L2.St → Hp → Prop), (∀ σ' H', Q σ' H' → Q' σ' H') → g v σ H Q → g v σ H Q'
structure PDGs (X : Cx) (C : C3) (tg : List Expr) (g : TGs) (γ : TGsd) (ks : List Nat) : Prop where
  pg : PGs X tg g
  snd : SndGs C g γ
  kp : Keepss g ks
  mo : ∀ v σ H (Q Q' : L2.St → Hp → Prop), (∀ σ' H', Q σ' H' → Q' σ' H') → g v σ H Q → g v σ H Q'
def dgName (i : Nat) : TGd := fun d ρ Q => i < ρ.length ∧ Q (ρ.set i (.dat d))
def dgNil : TGsd := fun ds ρ Q => ds = [] ∧ Q ρ
def dgCons (g : TGd) (u : TGsd) : TGsd := fun ds ρ Q => ∃ d r, ds = d :: r ∧ g d ρ fun ρ' => u r ρ' Q
def dgTup (n : Nat) (u : TGsd) : TGd := fun d ρ Q => ∃ ds, d = .tuple ds ∧ ds.length = n ∧ u ds ρ Q
section
variable {X : Cx} {C : C3} {pos : Pos}
theorem qg_name {i : Nat} {x : Str} (hN : X.N.Nodup) (hi : X.N[i]? = some x := by rfl) (hx : Loc X.env.scope x := by first | exact Or.inl rfl | exact Or.inr rfl) (hf : X.fn x = true ∨ X.env.scope.names.lookup x = some .local := by first | exact .inl rfl | exact .inr rfl) : PDG X C (.Name x pos) (gName i) (dgName i) [i] :=
  ⟨pg_name hN hi hx hf, fun N am H σ ρ v d QD Q s r h hQ => hQ _ _ (s.putD h.1 r) h.2, fun v σ H Q h => ⟨h, by rw [List.length_set], fun j hj => List.getElem?_set_ne fun z => hj (by simp [z])⟩, fun _ _ _ _ _ m h => m _ _ h⟩
theorem qgs_nil : PDGs X C [] gNil dgNil [] := ⟨pgs_nil, fun N am H σ ρ vs ds QD Q s r h hQ => by
  obtain ⟨rfl, h⟩ := h
  cases r
  exact ⟨rfl, hQ σ ρ s h⟩, fun v σ H Q h => ⟨h.1, h.2, rfl, fun _ _ => rfl⟩, fun _ _ _ _ _ m h => ⟨h.1, m _ _ h.2⟩⟩
theorem qgs_cons {e : Expr} {es : List Expr} {g : TG} {u : TGs} {γ : TGd} {ν : TGsd} {ks ls : List Nat} (h1 : PDG X C e g γ ks) (h2 : PDGs X C es u ν ls)
    (hs : (assignEach (e :: es) X.env).map (·.2) = assign e X.env :: (assignEach es X.env).map (·.2) := by rfl) : PDGs X C (e :: es) (gCons g u) (dgCons γ ν) (ks ++ ls) :=
  ⟨pgs_cons h1.pg h2.pg hs, fun N am H σ ρ vs ds QD Q s r h hQ => by
    obtain ⟨d, ds', rfl, h⟩ := h
    cases r with
    | cons r1 r2 =>
      exact ⟨_, _, rfl, h1.snd N am H σ ρ _ d _ _ s r1 h fun σ' ρ' s' q => h2.snd N am H σ' ρ' _ ds' QD Q s' r2 q fun σ2 ρ2 s2 q2 => hQ σ2 ρ2 s2 q2⟩, fun vs σ H Q h => by
    obtain ⟨v, r, e, h⟩ := h
    refine ⟨v, r, e, ?_⟩
    have a1 := h1.kp v σ H _ h
    -- the inner target, told the same way
    have k : ∀ σ' H', (u r σ' H' Q ∧ Agree ks σ σ') → u r σ' H' fun σ2 H2 => Q σ2 H2 ∧ Agree (ks ++ ls) σ σ2 := fun σ' H' ⟨q, ag⟩ => by
      have a2 := h2.kp r σ' H' Q q
      have mono := h2.mo
      exact mono r σ' H' _ _ (fun σ2 H2 ⟨q2, ag2⟩ => ⟨q2, ag2.1.trans ag.1, fun j hj => (ag2.2 j fun z => hj (List.mem_append_right _ z)).trans (ag.2 j fun z => hj (List.mem_append_left _ z))⟩) a2
    exact h1.mo v σ H _ _ k a1, fun vs σ H Q Q' m ⟨v, r, e, h⟩ => ⟨v, r, e, h1.mo v σ H _ _ (fun σ' H' q => h2.mo r σ' H' Q Q' m q) h⟩⟩
theorem qg_tup {es : List Expr} {k : Nat} {u : TGs} {ν : TGsd} {n : Nat} {ks : List Nat} (hc : X.calm = true) (h : PDGs X C es u ν ks)
    (hn : (assignEach es X.env).length = n := by rfl) (hst : (assignEach es X.env).findIdx? (·.1) = none := by rfl) : PDG X C (.Tuple es k pos) (gTup X.K n u) (dgTup n ν) ks :=
  ⟨pg_tup hc h.pg hn hst, fun N am H σ ρ v d QD Q s r hd hQ => by
    obtain ⟨ds, rfl, hl, hd⟩ := hd
    cases r with
    | @tup a us _ ha hu => exact ⟨a, us, rfl, .of (wo_some ha).2, by rw [r3s_len hu]; exact hl, h.snd N am H σ ρ us ds QD Q s hu hd hQ⟩, fun v σ H Q h' => by
    obtain ⟨a, xs, e, h1, h2, h3⟩ := h'
    exact ⟨a, xs, e, h1, h2, h.kp xs σ H Q h3⟩, fun v σ H Q Q' m ⟨a, xs, e, h1, h2, h3⟩ => ⟨a, xs, e, h1, h2, h.mo xs σ H Q Q' m h3⟩⟩
def dAsg (t : TD) (γ : TGd) : TSd := fun D ρ => t ρ fun d => γ d ρ D.nx
theorem snd_asg {te : TE} {τ : TD} {g : TG} {γ : TGd} (he : Snd C te τ) (hg : SndG C g γ) : SndS C (tAsg te g) (dAsg τ γ) := fun M0 B H σ ρ D E w ⟨am, s⟩ l h =>
  he _ am H σ ρ _ _ s.env h fun v H1 d q a g r => hg _ am H1 σ ρ v d _ _ (s.go a g).env r q fun σ' ρ' s' q' => l.nx σ' H1 ρ' ⟨am, s', (s.go a g).out, (s.go a g).base⟩ q'
theorem qs_asg {tg e : Expr} {te : TE} {τ : TD} {g : TG} {γ : TGd} {ks : List Nat} (he : PDE X C e te τ) (hg : PDG X C tg g γ ks) (hs : swapsWithSole [tg] e pos.line X.env = pure false := by rfl) (hw : swappedStores [tg] e X.env = pure none := by rfl)
    (h1 : (assignEach [tg] X.env).map (·.2) = [assign tg X.env] := by rfl) : PDS X C (.Assign [tg] e pos) (tAsg te g) (dAsg τ γ) := ⟨ps_asg he.pe hg.pg hs hw h1, snd_asg he.snd hg.snd⟩
theorem qs_set {i : Nat} {x : Str} {e : Expr} {te : TE} {τ : TD} {pos' : Pos} (hN : X.N.Nodup) (he : PDE X C e te τ) (hi : X.N[i]? = some x := by rfl) (hx : Loc X.env.scope x := by first | exact Or.inl rfl | exact Or.inr rfl) (hs : swapsWith e (some (.Name x pos')) pos.line X.env = pure false := by rfl)
    (hf : X.fn x = true ∨ X.env.scope.names.lookup x = some .local := by first | exact .inl rfl | exact .inr rfl) : PDS X C (.Assign [.Name x pos'] e pos) (tAsg te (gName i)) (dAsg τ (dgName i)) :=
  ⟨ps_set hN hi hx he.pe hs hf, snd_asg he.snd (qg_name (pos := pos') hN hi hx hf).snd⟩
/-- a, b = e, f: plain local names -/
def dPar (i j : Nat) (t : TAd) : TSd := fun D ρ => t ρ fun ds => ∃ d e, ds = [d, e] ∧ i < ρ.length ∧ j < ρ.length ∧ D.nx ((ρ.set i (.dat d)).set j (.dat e))
theorem qs_par {i j : Nat} {x y : Str} {a b : Expr} {ta : TA} {τ : TAd} {px py pt : Pos} {kt k2 pt2} (hc : X.calm = true) (hN : X.N.Nodup) (hi : X.N[i]? = some x) (hj : X.N[j]? = some y) (hij : i ≠ j)
    (hx : X.env.scope.names.lookup x = some .local) (hy : X.env.scope.names.lookup y = some .local) (ha : PDA X C [a, b] ta τ)
    (hw : swappedStores [.Tuple [.Name x px, .Name y py] kt pt] (.Tuple [a, b] k2 pt2) X.env = pure (some [x, y]))
    (hs : swapsWithSole [.Tuple [.Name x px, .Name y py] kt pt] (.Tuple [a, b] k2 pt2) pos.line X.env = pure false := by rfl) :
    PDS X C (.Assign [.Tuple [.Name x px, .Name y py] kt pt] (.Tuple [a, b] k2 pt2) pos) (tPar i j ta) (dPar i j τ) :=
  ⟨ps_par hc hN hi hj hij hx hy ha.pa hw hs, fun M0 B H σ ρ D E w ⟨am, s⟩ l h => ha.snd _ am H σ ρ _ _ s.env h fun vs H1 ds q ag g r => by
    obtain ⟨d, e, rfl, hi', hj', q⟩ := q
    cases r with
    | cons r1 r2 =>
      cases r2 with
      | cons r2 r3 =>
        cases r3
        have s1 := s.go ag g
        have s2 := s1.putD (i := i) hi' r1
        have s3 := s2.putD (i := j) (by rw [List.length_set]; exact hj') r2
        exact ⟨_, _, rfl, l.nx _ H1 _ ⟨_, s3⟩ q⟩⟩
/-- name += e, ints -/
def dAug (i : Nat) (t : TD) (f : Int → Int → Int) : TSd := fun D ρ => ∃ m, ρ[i]? = some (.dat (.int m)) ∧ t ρ fun d => ∃ n, d = .int n ∧ D.nx (ρ.set i (.dat (.int (f m n))))
theorem qs_aug {i : Nat} {x : Str} {e : Expr} {te : TE} {τ : TD} {op : Operator} {f : Int → Int → Int} {pos' : Pos} (hN : X.N.Nodup) (he : PDE X C e te τ) (ho : PIp X op (ipI f)) (hi : X.N[i]? = some x := by rfl) (hx : Loc X.env.scope x := by first | exact Or.inl rfl | exact Or.inr rfl) (hf : X.fn x = true ∨ X.env.scope.names.lookup x = some .local := by first | exact .inl rfl | exact .inr rfl) :
    PDS X C (.AugAssign (.Name x pos') op e pos) (tAug i te (ipI f)) (dAug i τ f) :=
  ⟨ps_aug hN hi hx he.pe ho hf, fun M0 B H σ ρ D E w ⟨am, s⟩ l h => by
    obtain ⟨m, e1, h⟩ := h
    obtain ⟨v, h1, h2⟩ := s.env.dat e1
    cases h2
    refine ⟨_, h1, he.snd _ am H σ ρ _ _ s.env h fun v H1 d ⟨n, en, q⟩ ag g r => ?_⟩
    subst en
    cases r
    have hl : i < ρ.length := (List.getElem?_eq_some_iff.mp e1).1
    exact ⟨m, n, rfl, rfl, l.nx _ H1 _ ⟨_, (s.go ag g).putD hl (.int _)⟩ q⟩⟩
end
end L3
namespace L3
open PySem L2
open PySem.Spec
/-! ### a new list -/
abbrev TLd := Env3 → (List PyData → Prop) → Prop
def plus (N : Msk) (p : Addr) : Msk := fun a => N a ∨ a = p
/-- the value is a list that was not there -/
def SndL (C : C3) (t : TE) (τ : TLd) : Prop := ∀ (N : Msk) (am : Nat → Option Addr) (H : Hp) (σ : L2.St) (ρ : Env3) (QD : List PyData → Prop) (Q : VK), EnvA C N am H σ ρ → τ ρ QD →
  (∀ p H' vs ds, QD ds → H p = none → Go C H H' → Glob C H' → H' p = some (.lst vs) → R3s (wo H' (plus N p)) vs ds → Q (.ref p) H') → t σ H Q
structure PDL (X : Cx) (C : C3) (e : Expr) (t : TE) (τ : TLd) : Prop where
  pe : PE X e t
  snd : SndL C t τ
def dOfL (τ : TLd) : TD := fun ρ Q => τ ρ fun ds => Q (.list ds)
section
variable {X : Cx} {C : C3} {e : Expr} {t : TE} {τ : TLd} {pos : Pos}
theorem snd_ofL (h : SndL C t τ) : Snd C t (dOfL τ) := fun N am H σ ρ QD Q e q hQ => h N am H σ ρ _ _ e q fun p H' vs ds q1 n a g hp r =>
  hQ _ H' _ q1 a g (.lst (by rw [wo_not (e.mok.fresh n)]; exact hp) (r3s_sub (sub_less fun b z => .inl z) _ _ r))
theorem PDL.pde (h : PDL X C e t τ) : PDE X C e t (dOfL τ) := ⟨h.pe, snd_ofL h.snd⟩
theorem r3s_plus {N : Msk} {H : Hp} {p : Addr} {o : HO} {vs : List V} {ds : List PyData} (n : H p = none) (r : R3s (wo H N) vs ds) : R3s (wo (upd H p o) (plus N p)) vs ds := by
  refine r3s_sub (fun a u e _ => ?_) _ _ r
  obtain ⟨h1, h2⟩ := wo_some e
  have ne := ne_of_none h2 n
  rw [wo_not (fun z => z.elim h1 ne), upd_ne ne]
  exact h2
def dLstL (t : TAd) : TLd := fun ρ Q => t ρ fun ds => ds.length ≤ 1000 ∧ Q ds
theorem ql_lst {es : List Expr} {t : TA} {τ : TAd} (h : PDA X C es t τ) : PDL X C (.List es pos) (tLst t) (dLstL τ) := ⟨pe_lst h.pa, fun N am H σ ρ QD Q e q hQ =>
  h.snd N am H σ ρ _ _ e q fun vs H1 ds q1 a g r => by
    refine ⟨by rw [r3s_len r]; exact few q1.1, fun p hp => ?_⟩
    obtain ⟨a1, g1, w1, s1⟩ := lay (e.go a g).mok g (o := .lst vs) hp
    exact hQ p _ vs ds q1.2 (a.free (fun w => (e.go a g).mok.fresh hp ((e.go a g).mok.sub _ w)) hp) (a.trans a1) g1 upd_same (r3s_plus hp r)⟩
def dRepL (ta tb : TD) : TLd := fun ρ Q => ta ρ fun d => tb ρ fun e => ∃ (c : PyData) (k : Nat), d = .list [c] ∧ e = .int k ∧ k ≤ 1000 ∧ Q (List.replicate k c)
theorem ql_rep {a b : Expr} {ta tb : TE} {τa τb : TD} (ha : PDE X C a ta τa) (hb : PDE X C b tb τb) : PDL X C (.BinOp a .Mult b pos) (tOp rRep ta tb) (dRepL τa τb) := ⟨pe_op op_rep ha.pe hb.pe, fun N am H σ ρ QD Q en q hQ =>
  ha.snd N am H σ ρ _ _ en q fun v H1 d q1 a g r => hb.snd N am H1 σ ρ _ _ (en.go a g) q1 fun u H2 e q2 a2 g2 r2 => by
    obtain ⟨c, k, rfl, rfl, hk, q⟩ := q2
    cases r2
    have r' := r3_sub (sub_go en.mok.sub a2) _ _ r
    have e2 := (en.go a g).go a2 g2
    cases r' with
    | @lst b us _ hb hu =>
      cases hu with
      | cons h1 h2 =>
        cases h2
        refine ⟨b, k, _, rfl, rfl, (wo_some hb).2, by omega, by omega, by rw [List.length_singleton, Nat.one_mul]; exact few (by omega), fun p hp => ?_⟩
        obtain ⟨a1, g1, w1, s1⟩ := lay e2.mok g2 (o := .lst (List.replicate k _)) hp
        have e1 : ((k : Nat) : Int).toNat = k := by omega
        rw [e1, flat_rep]
        exact hQ p _ _ _ q ((a.trans a2).free (fun w => e2.mok.fresh hp (e2.mok.sub _ w)) hp) ((a.trans a2).trans a1) g1 upd_same (r3s_plus hp (r3s_rep h1 k))⟩
/-! list(range(n)) -/
def rgD (a b : Int) : List PyData := (List.range (b - a).toNat).map fun i => PyData.int (a + (i : Nat))
theorem rg_r3s {G : Hp} (a b : Int) : R3s G (rgV a b) (rgD a b) := by
  unfold rgV rgD
  generalize List.range (b - a).toNat = l
  induction l with
  | nil => exact .nil
  | cons i l ih => exact .cons (.int _) ih
abbrev TRd := Env3 → (Int → Int → Prop) → Prop
def SndR (C : C3) (t : L2.St → Hp → (Int → Int → Hp → Prop) → Prop) (τ : TRd) : Prop := ∀ (N : Msk) (am : Nat → Option Addr) (H : Hp) (σ : L2.St) (ρ : Env3) (QD : Int → Int → Prop) (Q : Int → Int → Hp → Prop), EnvA C N am H σ ρ → τ ρ QD →
  (∀ a b H', QD a b → Go C H H' → Glob C H' → Q a b H') → t σ H Q
structure PDR (X : Cx) (C : C3) (e : Expr) (t : L2.St → Hp → (Int → Int → Hp → Prop) → Prop) (τ : TRd) : Prop where
  pr : PRg X e t
  snd : SndR C t τ
def dRg1 (τ : TD) : TRd := fun ρ Q => τ ρ fun d => ∃ n, d = .int n ∧ Q 0 n
def dRg2 (τ υ : TD) : TRd := fun ρ Q => τ ρ fun d => υ ρ fun e => ∃ i j, d = .int i ∧ e = .int j ∧ Q i j
theorem qr_1 {a : Expr} {ta : TE} {τ : TD} {p : Pos} (hg : Gl X "range") (hm : X.mg "range" = none) (ha : PDE X C a ta τ) (na : starEach [a] X.env = (false, eval a X.env) :: starEach [] X.env := by rfl) : PDR X C (.Call (.Name "range" p) [a] [] pos) (tRg1 ta) (dRg1 τ) :=
  ⟨prg_1 hg hm ha.pe na, fun N am H σ ρ QD Q e q hQ => ha.snd N am H σ ρ _ _ e q fun v H1 d ⟨n, en, q1⟩ a g r => by
    subst en
    cases r
    exact ⟨n, rfl, hQ 0 n H1 q1 a g⟩⟩
theorem qr_2 {a b : Expr} {ta tb : TE} {τ υ : TD} {p : Pos} (hg : Gl X "range") (hm : X.mg "range" = none) (ha : PDE X C a ta τ) (hb : PDE X C b tb υ) (na : starEach [a, b] X.env = (false, eval a X.env) :: starEach [b] X.env := by rfl)
    (nb : starEach [b] X.env = (false, eval b X.env) :: starEach [] X.env := by rfl) (hp : (backTo pos (starEach [b] X.env)).any (·.1) = false := by rfl) : PDR X C (.Call (.Name "range" p) [a, b] [] pos) (tRg2 ta tb) (dRg2 τ υ) :=
  ⟨prg_2 hg hm ha.pe hb.pe na nb hp, fun N am H σ ρ QD Q e q hQ => ha.snd N am H σ ρ _ _ e q fun v H1 d q1 a g r => hb.snd N am H1 σ ρ _ _ (e.go a g) q1 fun u H2 c ⟨i, j, ei, ej, q2⟩ a2 g2 r2 => by
    subst ei
    subst ej
    cases r
    cases r2
    exact ⟨i, j, rfl, rfl, hQ i j H2 q2 (a.trans a2) g2⟩⟩
def dLstRg (τ : TRd) : TLd := fun ρ Q => τ ρ fun a b => RgOk a b ∧ Q (rgD a b)
def dTupRg (τ : TRd) : TD := fun ρ Q => τ ρ fun a b => RgOk a b ∧ Q (.tuple (rgD a b))
theorem ql_rg {t : L2.St → Hp → (Int → Int → Hp → Prop) → Prop} {τ : TRd} {p : Pos} (hc : X.calm = true) (hg : Gl X "list") (hm : X.mg "list" = none) (he : PDR X C e t τ) (na : starEach [e] X.env = (false, eval e X.env) :: starEach [] X.env := by rfl) : PDL X C (.Call (.Name "list" p) [e] [] pos) (tLstRg t) (dLstRg τ) :=
  ⟨pe_listRg hc hg hm he.pr na, fun N am H σ ρ QD Q en q hQ => he.snd N am H σ ρ _ _ en q fun a b H1 q1 ag g => ⟨q1.1, fun p hp => by
    obtain ⟨a1, g1, w1, s1⟩ := lay (en.go ag g).mok g (o := .lst (rgV a b)) hp
    exact hQ p _ _ _ q1.2 (ag.free (fun w => (en.go ag g).mok.fresh hp (en.mok.sub _ w)) hp) (ag.trans a1) g1 upd_same (rg_r3s a b)⟩⟩
theorem q_tupRg {t : L2.St → Hp → (Int → Int → Hp → Prop) → Prop} {τ : TRd} {p : Pos} (hc : X.calm = true) (hg : Gl X "tuple") (hm : X.mg "tuple" = none) (he : PDR X C e t τ) (na : starEach [e] X.env = (false, eval e X.env) :: starEach [] X.env := by rfl) : PDE X C (.Call (.Name "tuple" p) [e] [] pos) (tTupRg t) (dTupRg τ) :=
  ⟨pe_tupRg hc hg hm he.pr na, fun N am H σ ρ QD Q en q hQ => he.snd N am H σ ρ _ _ en q fun a b H1 q1 ag g => ⟨q1.1, fun p hp => by
    obtain ⟨a1, g1, w1, s1⟩ := lay (en.go ag g).mok g (o := .tup (rgV a b)) hp
    exact hQ _ _ _ q1.2 (ag.trans a1) g1 (.tup w1 (rg_r3s a b))⟩⟩
end

/-! ### lists of the def's own -/
section
variable {C : C3} {M0 : Msk} {B : Bs} {am : Nat → Option Addr} {H H' : Hp} {σ : L2.St} {ρ : Env3}
def ons (am : Nat → Option Addr) (i : Nat) (p : Addr) : Nat → Option Addr := fun j => if j = 2 * i then some p else if j = 2 * i + 1 then none else am j
theorem ons_same {i : Nat} {p : Addr} : ons am i p (2 * i) = some p := if_pos rfl
theorem ons_some {i j : Nat} {p a : Addr} (h : ons am i p j = some a) : (j = 2 * i ∧ a = p) ∨ (j ≠ 2 * i ∧ j ≠ 2 * i + 1 ∧ am j = some a) := by
  unfold ons at h
  by_cases h1 : j = 2 * i
  · rw [if_pos h1] at h
    exact .inl ⟨h1, (Option.some.inj h).symm⟩
  · rw [if_neg h1] at h
    by_cases h2 : j = 2 * i + 1
    · rw [if_pos h2] at h
      cases h
    · rw [if_neg h2] at h
      exact .inr ⟨h1, h2, h⟩
theorem ons_ne {i j : Nat} {p : Addr} (h1 : j ≠ 2 * i) (h2 : j ≠ 2 * i + 1) : ons am i p j = am j := by
  unfold ons
  rw [if_neg h1, if_neg h2]
theorem cell_ons {i j : Nat} {p : Addr} {N N' : Msk} {σ' : L2.St} {c : Cell} (hj : j ≠ i) (hs : σ'[j]? = σ[j]?) (sub : Sub (wo H N) (wo H N')) (h : CellOk N am H σ j c) : CellOk N' (ons am i p) H σ' j c := by
  cases c with
  | un => exact h
  | dat d =>
    obtain ⟨v, h1, h2⟩ := h
    exact ⟨v, hs.trans h1, r3_sub sub _ _ h2⟩
  | own ds =>
    obtain ⟨a, vs, h1, h2, h3, h4⟩ := h
    exact ⟨a, vs, (ons_ne (by omega) (by omega)).trans h1, hs.trans h2, h3, r3s_sub sub _ _ h4⟩
  | own2 ds es =>
    obtain ⟨t, b, c, vs, us, h1, h2, h3, h4, h5, h6, h7, h8⟩ := h
    exact ⟨t, b, c, vs, us, (ons_ne (by omega) (by omega)).trans h1, (ons_ne (by omega) (by omega)).trans h2, hs.trans h3, sub _ _ h4 (by intro _ z; cases z), h5, h6, r3s_sub sub _ _ h7, r3s_sub sub _ _ h8⟩
  | val v => exact hs.trans h
/-- slot i gets a list that nothing else refers to (H: as it was ahead of the list) -/
theorem SA.putL (s : SA C M0 B am H σ ρ) (a : Go C H H') (g : Glob C H') {i : Nat} {p : Addr} {vs : List V} {ds : List PyData} (hi : i < σ.length) (n : H p = none) (hp : H' p = some (.lst vs)) (r : R3s (wo H' (plus (mkN M0 am) p)) vs ds) :
    SA C M0 B (ons am i p) H' (σ.set i (some (.ref p))) (ρ.set i (.own ds)) := by
  have s' := s.go a g
  have nN : ¬ mkN M0 am p := s.env.mok.fresh n
  have le : ∀ b, mkN M0 (ons am i p) b → plus (mkN M0 am) p b := fun b h => by
    rcases h with h | ⟨j, h⟩
    · exact .inl (.inl h)
    · rcases ons_some h with ⟨_, e⟩ | ⟨_, _, h⟩
      · exact .inr e
      · exact .inl (.inr ⟨j, h⟩)
  have live : ∀ {b o}, wo H (mkN M0 am) b = some o → b ≠ p := fun e => ne_of_none (wo_some e).2 n
  have sub0 : Sub (wo H (mkN M0 am)) (wo H' (mkN M0 (ons am i p))) := fun b o e h => by
    have e2 := sub_go s.env.mok.sub a b o e h
    obtain ⟨h1, h2⟩ := wo_some e2
    rw [wo_not fun z => (le b z).elim h1 (live e)]
    exact h2
  refine ⟨⟨⟨fun b w => mkN_W s b w, fun b h => ?_⟩, g, by rw [List.length_set, List.length_set]; exact s.env.len, fun j k e => ?_, fun j b e => ?_, fun j k b e1 e2 => ?_⟩, fun j b e => ?_, fun q hq => ?_⟩
  · rcases le b h with h | h
    · exact s'.env.mok.dom b h
    · exact ⟨_, by rw [h]; exact hp, by intro _ z; cases z⟩
  · by_cases hj : j = i
    · subst hj
      rw [List.getElem?_set_self (by rw [s.env.len]; exact hi)] at e
      cases e
      exact ⟨p, vs, ons_same, List.getElem?_set_self hi, hp, r3s_sub (sub_less le) _ _ r⟩
    · rw [List.getElem?_set_ne (Ne.symm hj)] at e
      have k0 := s.env.sl j k e
      have k1 := s'.env.sl j k e
      have hs : (σ.set i (some (.ref p)))[j]? = σ[j]? := List.getElem?_set_ne (Ne.symm hj)
      cases k with
      | un => exact k0
      | dat d =>
        obtain ⟨v, h1, h2⟩ := k0
        exact ⟨v, hs.trans h1, r3_sub sub0 _ _ h2⟩
      | own ds =>
        obtain ⟨b, us, h1, h2, h3, h4⟩ := k0
        exact ⟨b, us, (ons_ne (by omega) (by omega)).trans h1, hs.trans h2, a.keep h3 (s.env.amN _ b h1).2.1 (by intro _ z; cases z), r3s_sub sub0 _ _ h4⟩
      | own2 ds es =>
        obtain ⟨t, b, c, vs, us, h1, h2, h3, h4, h5, h6, h7, h8⟩ := k0
        exact ⟨t, b, c, vs, us, (ons_ne (by omega) (by omega)).trans h1, (ons_ne (by omega) (by omega)).trans h2, hs.trans h3, sub0 _ _ h4 (by intro _ z; cases z), a.keep h5 (s.env.amN _ b h1).2.1 (by intro _ z; cases z), a.keep h6 (s.env.amN _ c h2).2.1 (by intro _ z; cases z), r3s_sub sub0 _ _ h7, r3s_sub sub0 _ _ h8⟩
      | val v => exact hs.trans k0
  · rcases ons_some e with ⟨_, z⟩ | ⟨_, _, z⟩
    · subst z
      exact ⟨.inr ⟨j, e⟩, fun w => nN (s.env.mok.sub _ w), vs, hp⟩
    · obtain ⟨h1, h2, us, h3⟩ := s'.env.amN j b z
      exact ⟨.inr ⟨j, e⟩, h2, us, h3⟩
  · rcases ons_some e1 with ⟨z1, z2⟩ | ⟨z0, z1, z2⟩ <;> rcases ons_some e2 with ⟨y1, y2⟩ | ⟨y0, y1, y2⟩
    · exact z1.trans y1.symm
    · exact absurd (.inr ⟨k, by rw [← z2]; exact y2⟩) nN
    · exact absurd (.inr ⟨j, by rw [← y2]; exact z2⟩) nN
    · exact s.env.inj j k b z2 y2
  · rcases ons_some e with ⟨_, z⟩ | ⟨_, _, z⟩
    · subst z
      exact fun m => nN (.inl m)
    · exact s.out j b z
  · obtain ⟨h1, h2, h3⟩ := s'.base q hq
    obtain ⟨k1, _, _⟩ := s.base q hq
    refine ⟨h1, h2, fun j b e => ?_⟩
    rcases ons_some e with ⟨_, z⟩ | ⟨_, _, z⟩
    · subst z
      by_cases w : q.2 b
      · exact .inl w
      · exact .inr (k1.free w n)
    · exact h3 j b z
theorem tabs_but {T : List (Addr × Str)} (t : LamX.Tabs T H) (k : ∀ b o, H b = some o → (∀ xs, o ≠ .lst xs) → (∀ xs, o ≠ .dK xs) → H' b = some o) : LamX.Tabs T H' := fun p hp => by
  obtain ⟨ps, h1, h2, h3⟩ := t p hp
  refine ⟨ps, k _ _ h1 (by intro _ z; cases z) (by intro _ z; cases z), h2, fun pos cv hc => ?_⟩
  obtain ⟨c, e1, e2⟩ := h3 pos cv hc
  exact ⟨c, e1, k _ _ e2 (by intro _ z; unfold LamX.CodeO at z; cases z) (by intro _ z; unfold LamX.CodeO at z; cases z)⟩
theorem write_sub (s : SA C M0 B am H σ ρ) {n : Nat} {a : Addr} {o : HO} (ha : am n = some a) : Sub (wo H (mkN M0 am)) (wo (upd H a o) (mkN M0 am)) := fun b u e _ => by
  obtain ⟨h1, h2⟩ := wo_some e
  have ne : b ≠ a := fun z => h1 (by rw [z]; exact (s.env.amN _ a ha).1)
  rw [wo_not h1, upd_ne ne]
  exact h2
/-- a list of slot i is written -/
theorem SA.writeAt (s : SA C M0 B am H σ ρ) {i n : Nat} {a : Addr} {us : List V} {c : Cell} (hn : n = 2 * i ∨ n = 2 * i + 1) (ha : am n = some a) (hi : i < ρ.length) (hc : CellOk (mkN M0 am) am (upd H a (.lst us)) σ i c) : SA C M0 B am (upd H a (.lst us)) σ (ρ.set i c) := by
  obtain ⟨nN, nW, vs', h3⟩ := s.env.amN _ a ha
  have sub := write_sub s (o := .lst us) ha
  refine ⟨⟨⟨s.env.mok.sub, fun b h => ?_⟩, ⟨tabs_but s.env.glob.tabs fun b o e h _ => ?_, fun q hq => ?_⟩, by rw [List.length_set]; exact s.env.len, fun j k ek => ?_, fun j b eb => ?_, s.env.inj⟩, s.out, fun q hq => ?_⟩
  · by_cases z : b = a
    · exact ⟨_, by rw [z]; exact upd_same, by intro _ z; cases z⟩
    · rw [upd_ne z]
      exact s.env.mok.dom b h
  · rw [upd_ne fun z => h vs' (Option.some.inj (e.symm.trans (by rw [z]; exact h3)))]
    exact e
  · obtain ⟨cs, m, d, z, ne, k1, k2⟩ := s.env.glob.deck q hq
    exact ⟨cs, m, d, z, ne, by rw [upd_ne fun z => nW ⟨q, hq, .inl z.symm⟩]; exact k1, by rw [upd_ne fun z => nW ⟨q, hq, .inr z.symm⟩]; exact k2⟩
  · by_cases hj : j = i
    · subst hj
      rw [List.getElem?_set_self hi] at ek
      cases ek
      exact hc
    · rw [List.getElem?_set_ne (Ne.symm hj)] at ek
      have k0 := s.env.sl j k ek
      have other : ∀ {m b}, m ≠ n → am m = some b → b ≠ a := fun {m b} hm hb z => hm (s.env.inj m n a (by rw [← z]; exact hb) ha)
      cases k with
      | un => exact k0
      | dat d =>
        obtain ⟨v, h1, h2⟩ := k0
        exact ⟨v, h1, r3_sub sub _ _ h2⟩
      | own ds =>
        obtain ⟨b, us, h1, h2, h3, h4⟩ := k0
        exact ⟨b, us, h1, h2, by rw [upd_ne (other (by omega) h1)]; exact h3, r3s_sub sub _ _ h4⟩
      | own2 ds es =>
        obtain ⟨t, b, c, vs, us, h1, h2, h3, h4, h5, h6, h7, h8⟩ := k0
        exact ⟨t, b, c, vs, us, h1, h2, h3, sub _ _ h4 (by intro _ z; cases z), by rw [upd_ne (other (by omega) h1)]; exact h5, by rw [upd_ne (other (by omega) h2)]; exact h6, r3s_sub sub _ _ h7, r3s_sub sub _ _ h8⟩
      | val v => exact k0
  · obtain ⟨k1, k2, ws, k3⟩ := s.env.amN j b eb
    refine ⟨k1, k2, ?_⟩
    by_cases z : b = a
    · exact ⟨us, by rw [z]; exact upd_same⟩
    · exact ⟨ws, by rw [upd_ne z]; exact k3⟩
  · obtain ⟨k1, k2, k3⟩ := s.base q hq
    refine ⟨fun b o e n => ?_, k2, k3⟩
    have ne : b ≠ a := fun z => by
      rcases k3 _ a ha with y | y
      · exact n (by rw [z]; exact y)
      · rw [z, y] at e
        cases e
    rw [upd_ne ne]
    exact k1 b o e n
theorem SA.write (s : SA C M0 B am H σ ρ) {i : Nat} {ds : List PyData} {a : Addr} {us : List V} {es : List PyData} (e : ρ[i]? = some (.own ds)) (ha : am (2 * i) = some a) (r : R3s (wo H (mkN M0 am)) us es) : SA C M0 B am (upd H a (.lst us)) σ (ρ.set i (.own es)) := by
  obtain ⟨a', vs', h1, h2, h3, h4⟩ := s.env.sl i _ e
  rw [ha] at h1
  cases h1
  exact s.writeAt (.inl rfl) ha (List.getElem?_eq_some_iff.mp e).1 ⟨a, us, ha, h2, upd_same, r3s_sub (write_sub s ha) _ _ r⟩
end
end L3
namespace L3
open PySem L2
open PySem.Spec
section
variable {C : C3} {M0 : Msk} {B : Bs} {am : Nat → Option Addr} {H H' : Hp} {σ : L2.St} {ρ : Env3}
/-- slot i gets a value over lists that were not there -/
theorem SA.fresh (s : SA C M0 B am H σ ρ) (a : Go C H H') (g : Glob C H') {am' : Nat → Option Addr} {i : Nat} {v : V} {c : Cell} (hi : i < σ.length) (h1 : ∀ j, j ≠ 2 * i → j ≠ 2 * i + 1 → am' j = am j)
    (h2 : ∀ j b, (j = 2 * i ∨ j = 2 * i + 1) → am' j = some b → H b = none ∧ ∃ vs, H' b = some (.lst vs)) (h3 : ∀ b, am' (2 * i) = some b → am' (2 * i + 1) = some b → False)
    (hc : CellOk (mkN M0 am') am' H' (σ.set i (some v)) i c) : SA C M0 B am' H' (σ.set i (some v)) (ρ.set i c) := by
  have s' := s.go a g
  have old : ∀ {j b}, am' j = some b → ((j = 2 * i ∨ j = 2 * i + 1) ∧ H b = none ∧ ∃ vs, H' b = some (.lst vs)) ∨ (j ≠ 2 * i ∧ j ≠ 2 * i + 1 ∧ am j = some b) := fun {j b} e => by
    by_cases q : j = 2 * i ∨ j = 2 * i + 1
    · exact .inl ⟨q, h2 j b q e⟩
    · have q1 : j ≠ 2 * i := fun z => q (.inl z)
      have q2 : j ≠ 2 * i + 1 := fun z => q (.inr z)
      exact .inr ⟨q1, q2, (h1 j q1 q2).symm.trans e⟩
  have le : ∀ b o, H b = some o → mkN M0 am' b → mkN M0 am b := fun b o eb h => by
    rcases h with h | ⟨j, h⟩
    · exact .inl h
    · rcases old h with ⟨_, n, _⟩ | ⟨_, _, k⟩
      · rw [n] at eb
        cases eb
      · exact .inr ⟨j, k⟩
  have sub0 : Sub (wo H (mkN M0 am)) (wo H' (mkN M0 am')) := fun b o e h => by
    have e2 := sub_go s.env.mok.sub a b o e h
    obtain ⟨k1, k2⟩ := wo_some e
    rw [wo_not fun z => k1 (le b o k2 z)]
    exact (wo_some e2).2
  refine ⟨⟨⟨fun b w => mkN_W s b w, fun b h => ?_⟩, g, by rw [List.length_set, List.length_set]; exact s.env.len, fun j k e => ?_, fun j b e => ?_, fun j k b e1 e2 => ?_⟩, fun j b e => ?_, fun q hq => ?_⟩
  · rcases h with h | ⟨j, h⟩
    · exact s'.env.mok.dom b (.inl h)
    · rcases old h with ⟨_, _, vs, k⟩ | ⟨_, _, k⟩
      · exact ⟨_, k, by intro _ z; cases z⟩
      · exact s'.env.mok.dom b (.inr ⟨j, k⟩)
  · by_cases hj : j = i
    · subst hj
      rw [List.getElem?_set_self (by rw [s.env.len]; exact hi)] at e
      cases e
      exact hc
    · rw [List.getElem?_set_ne (Ne.symm hj)] at e
      have k0 := s.env.sl j k e
      have hs : (σ.set i (some v))[j]? = σ[j]? := List.getElem?_set_ne (Ne.symm hj)
      cases k with
      | un => exact k0
      | dat d =>
        obtain ⟨v, h1, h2⟩ := k0
        exact ⟨v, hs.trans h1, r3_sub sub0 _ _ h2⟩
      | own ds =>
        obtain ⟨b, us, k1, k2, k3, k4⟩ := k0
        exact ⟨b, us, (h1 _ (by omega) (by omega)).trans k1, hs.trans k2, a.keep k3 (s.env.amN _ b k1).2.1 (by intro _ z; cases z), r3s_sub sub0 _ _ k4⟩
      | own2 ds es =>
        obtain ⟨t, b, c, vs, us, k1, k2, k3, k4, k5, k6, k7, k8⟩ := k0
        exact ⟨t, b, c, vs, us, (h1 _ (by omega) (by omega)).trans k1, (h1 _ (by omega) (by omega)).trans k2, hs.trans k3, sub0 _ _ k4 (by intro _ z; cases z), a.keep k5 (s.env.amN _ b k1).2.1 (by intro _ z; cases z), a.keep k6 (s.env.amN _ c k2).2.1 (by intro _ z; cases z), r3s_sub sub0 _ _ k7, r3s_sub sub0 _ _ k8⟩
      | val v => exact hs.trans k0
  · rcases old e with ⟨_, n, vs, k⟩ | ⟨_, _, k⟩
    · exact ⟨.inr ⟨j, e⟩, fun w => s.env.mok.fresh n (s.env.mok.sub _ w), vs, k⟩
    · obtain ⟨k1, k2, us, k3⟩ := s'.env.amN j b k
      exact ⟨.inr ⟨j, e⟩, k2, us, k3⟩
  · rcases old e1 with ⟨z1, n1, _⟩ | ⟨z0, z1, z2⟩ <;> rcases old e2 with ⟨y1, n2, _⟩ | ⟨y0, y1, y2⟩
    · rcases z1 with z1 | z1 <;> rcases y1 with y1 | y1
      · exact z1.trans y1.symm
      · exact (h3 b (by rw [← z1]; exact e1) (by rw [← y1]; exact e2)).elim
      · exact (h3 b (by rw [← y1]; exact e2) (by rw [← z1]; exact e1)).elim
      · exact z1.trans y1.symm
    · exact absurd (.inr ⟨k, y2⟩) (s.env.mok.fresh n1)
    · exact absurd (.inr ⟨j, z2⟩) (s.env.mok.fresh n2)
    · exact s.env.inj j k b z2 y2
  · rcases old e with ⟨_, n, _⟩ | ⟨_, _, k⟩
    · exact fun m => s.env.mok.fresh n (.inl m)
    · exact s.out j b k
  · obtain ⟨k1, k2, k3⟩ := s'.base q hq
    obtain ⟨k0, _, _⟩ := s.base q hq
    refine ⟨k1, k2, fun j b e => ?_⟩
    rcases old e with ⟨_, n, _⟩ | ⟨_, _, k⟩
    · by_cases w : q.2 b
      · exact .inl w
      · exact .inr (k0.free w n)
    · exact k3 j b k
/-- an expression that is read beside a list that was not there does not see it -/
theorem EnvA.hide {N : Msk} {p : Addr} {vs : List V} (e : EnvA C N am H σ ρ) (n : H p = none) (a : Go C H H') (g : Glob C H') (hp : H' p = some (.lst vs)) : EnvA C (plus N p) am H' σ ρ := by
  have e' := e.go a g
  have sub0 : Sub (wo H N) (wo H' (plus N p)) := fun b o eb h => by
    have e2 := sub_go e.mok.sub a b o eb h
    obtain ⟨k1, k2⟩ := wo_some eb
    rw [wo_not fun z => z.elim k1 (ne_of_none k2 n)]
    exact (wo_some e2).2
  refine ⟨⟨fun b w => .inl (e.mok.sub b w), fun b h => ?_⟩, g, e.len, fun j k q => ?_, fun j b q => ?_, e.inj⟩
  · rcases h with h | h
    · exact e'.mok.dom b h
    · exact ⟨_, by rw [h]; exact hp, by intro _ z; cases z⟩
  · have k0 := e.sl j k q
    cases k with
    | un => exact k0
    | dat d =>
      obtain ⟨v, h1, h2⟩ := k0
      exact ⟨v, h1, r3_sub sub0 _ _ h2⟩
    | own ds =>
      obtain ⟨b, us, k1, k2, k3, k4⟩ := k0
      exact ⟨b, us, k1, k2, a.keep k3 (e.amN _ b k1).2.1 (by intro _ z; cases z), r3s_sub sub0 _ _ k4⟩
    | own2 ds es =>
      obtain ⟨t, b, c, vs, us, k1, k2, k3, k4, k5, k6, k7, k8⟩ := k0
      exact ⟨t, b, c, vs, us, k1, k2, k3, sub0 _ _ k4 (by intro _ z; cases z), a.keep k5 (e.amN _ b k1).2.1 (by intro _ z; cases z), a.keep k6 (e.amN _ c k2).2.1 (by intro _ z; cases z), r3s_sub sub0 _ _ k7, r3s_sub sub0 _ _ k8⟩
    | val v => exact k0
  · obtain ⟨h1, h2, h3⟩ := e'.amN j b q
    exact ⟨.inl h1, h2, h3⟩
/-! ### giving a list up: from then on it is data -/
theorem SA.freeze (s : SA C M0 B am H σ ρ) {i : Nat} {ds : List PyData} (e : ρ[i]? = some (.own ds)) : SA C M0 B (offs am i) H σ (ρ.set i (.dat (.list ds))) := by
  obtain ⟨a, vs, h1, h2, h3, h4⟩ := s.env.sl i _ e
  have hi : i < σ.length := (List.getElem?_eq_some_iff.mp h2).1
  have e1 : σ.set i (some (.ref a)) = σ := by
    apply List.ext_getElem?
    intro j
    by_cases hj : j = i
    · subst hj
      rw [List.getElem?_set_self hi, h2]
    · rw [List.getElem?_set_ne (Ne.symm hj)]
  have nN : ¬ mkN M0 (offs am i) a := fun z => by
    rcases z with z | ⟨j, z⟩
    · exact s.out _ a h1 z
    · exact (offs_some z).2.1 (s.env.inj _ _ a (offs_some z).1 h1)
  have q := s.drop (i := i) (v := .ref a) (c := .dat (.list ds)) hi ⟨_, List.getElem?_set_self hi, .lst (by rw [wo_not nN]; exact h3) (r3s_sub (sub_less mkN_offs) _ _ h4)⟩
  rw [e1] at q
  exact q
theorem SA.freeze2 (s : SA C M0 B am H σ ρ) {i : Nat} {ds es : List PyData} (e : ρ[i]? = some (.own2 ds es)) : SA C M0 B (offs am i) H σ (ρ.set i (.dat (.tuple [.list ds, .list es]))) := by
  obtain ⟨t, a, b, vs, us, h1, h2, h3, h4, h5, h6, h7, h8⟩ := s.env.sl i _ e
  have hi : i < σ.length := (List.getElem?_eq_some_iff.mp h3).1
  have e1 : σ.set i (some (.ref t)) = σ := by
    apply List.ext_getElem?
    intro j
    by_cases hj : j = i
    · subst hj
      rw [List.getElem?_set_self hi, h3]
    · rw [List.getElem?_set_ne (Ne.symm hj)]
  have nA : ¬ mkN M0 (offs am i) a := fun z => by
    rcases z with z | ⟨j, z⟩
    · exact s.out _ a h1 z
    · exact (offs_some z).2.1 (s.env.inj _ _ a (offs_some z).1 h1)
  have nB : ¬ mkN M0 (offs am i) b := fun z => by
    rcases z with z | ⟨j, z⟩
    · exact s.out _ b h2 z
    · exact (offs_some z).2.2 (s.env.inj _ _ b (offs_some z).1 h2)
  have sub : Sub (wo H (mkN M0 am)) (wo H (mkN M0 (offs am i))) := sub_less mkN_offs
  have q := s.drop (i := i) (v := .ref t) (c := .dat (.tuple [.list ds, .list es])) hi ⟨_, List.getElem?_set_self hi, .tup (sub _ _ h4 (by intro _ z; cases z)) (.cons (.lst (by rw [wo_not nA]; exact h5) (r3s_sub sub _ _ h7)) (.cons (.lst (by rw [wo_not nB]; exact h6) (r3s_sub sub _ _ h8)) .nil))⟩
  rw [e1] at q
  exact q
end
/-- one slot's list is given up -/
inductive Fz : Env3 → Env3 → Prop
  | one {ρ : Env3} (i : Nat) {ds : List PyData} : ρ[i]? = some (.own ds) → Fz ρ (ρ.set i (.dat (.list ds)))
  | two {ρ : Env3} (i : Nat) {ds es : List PyData} : ρ[i]? = some (.own2 ds es) → Fz ρ (ρ.set i (.dat (.tuple [.list ds, .list es])))
theorem Fz.s3 {C : C3} {M0 : Msk} {B : Bs} {H : Hp} {σ : L2.St} {ρ ρ' : Env3} (f : Fz ρ ρ') (s : S3 C M0 B H σ ρ) : S3 C M0 B H σ ρ' := by
  obtain ⟨am, s⟩ := s
  cases f with
  | one i e => exact ⟨_, s.freeze e⟩
  | two i e => exact ⟨_, s.freeze2 e⟩
def dFz (i : Nat) (τ : TSd) : TSd := fun D ρ => ∃ ds, ρ[i]? = some (.own ds) ∧ τ D (ρ.set i (.dat (.list ds)))
def dFz2 (i : Nat) (τ : TSd) : TSd := fun D ρ => ∃ ds es, ρ[i]? = some (.own2 ds es) ∧ τ D (ρ.set i (.dat (.tuple [.list ds, .list es])))
section
variable {X : Cx} {C : C3} {st : Stmt} {sts : List Stmt} {t : TS} {τ : TSd} {pos : Pos}
theorem qss_fz (i : Nat) (h : PDSs X C sts t τ) : PDSs X C sts t (dFz i τ) := ⟨h.ps, fun M0 B H σ ρ D E w s l ⟨ds, e, q⟩ => h.snd M0 B H σ _ D E w ((Fz.one i e).s3 s) l q⟩
theorem qss_fz2 (i : Nat) (h : PDSs X C sts t τ) : PDSs X C sts t (dFz2 i τ) := ⟨h.ps, fun M0 B H σ ρ D E w s l ⟨ds, es, e, q⟩ => h.snd M0 B H σ _ D E w ((Fz.two i e).s3 s) l q⟩
/-! ### new lists in slots -/
def dSetL (i : Nat) (τ : TLd) : TSd := fun D ρ => τ ρ fun ds => i < ρ.length ∧ D.nx (ρ.set i (.own ds))
theorem snd_setL {te : TE} {τl : TLd} {i : Nat} (he : SndL C te τl) : SndS C (tAsg te (gName i)) (dSetL i τl) := fun M0 B H σ ρ D E w ⟨am, s⟩ l h =>
  he _ am H σ ρ _ _ s.env h fun p H' vs ds q n a g hp r => l.nx _ _ _ ⟨_, s.putL a g (by rw [← s.env.len]; exact q.1) n hp r⟩ q.2
theorem qs_setL {i : Nat} {x : Str} {e : Expr} {te : TE} {τl : TLd} {pos' : Pos} (hN : X.N.Nodup) (he : PDL X C e te τl) (hi : X.N[i]? = some x := by rfl) (hx : Loc X.env.scope x := by first | exact Or.inl rfl | exact Or.inr rfl) (hs : swapsWith e (some (.Name x pos')) pos.line X.env = pure false := by rfl)
    (hf : X.fn x = true ∨ X.env.scope.names.lookup x = some .local := by first | exact .inl rfl | exact .inr rfl) : PDS X C (.Assign [.Name x pos'] e pos) (tAsg te (gName i)) (dSetL i τl) := ⟨ps_set hN hi hx he.pe hs hf, snd_setL he.snd⟩
/-- a, b = e, a new list -/
def dParL (i j : Nat) (t : TD) (u : TLd) : TSd := fun D ρ => t ρ fun d => u ρ fun ds => i < ρ.length ∧ j < ρ.length ∧ D.nx ((ρ.set i (.dat d)).set j (.own ds))
/-- a, b = a new list, e -/
def dParL1 (i j : Nat) (t : TLd) (u : TD) : TSd := fun D ρ => t ρ fun ds => u ρ fun d => i < ρ.length ∧ j < ρ.length ∧ D.nx ((ρ.set i (.own ds)).set j (.dat d))
/-- a, b = two new lists -/
def dParLL (i j : Nat) (t u : TLd) : TSd := fun D ρ => t ρ fun ds => u ρ fun es => i < ρ.length ∧ j < ρ.length ∧ D.nx ((ρ.set i (.own ds)).set j (.own es))
theorem plus_offs {M0 : Msk} {am : Nat → Option Addr} {i : Nat} {p : Addr} : ∀ b, plus (mkN M0 (offs am i)) p b → plus (mkN M0 am) p b := fun b h => h.imp (mkN_offs b) id
theorem mkN_ons {M0 : Msk} {am : Nat → Option Addr} {i : Nat} {p : Addr} : ∀ b, mkN M0 (ons am i p) b → plus (mkN M0 am) p b := fun b h => by
  rcases h with h | ⟨j, h⟩
  · exact .inl (.inl h)
  · rcases ons_some h with ⟨_, e⟩ | ⟨_, _, h⟩
    · exact .inr e
    · exact .inl (.inr ⟨j, h⟩)
theorem snd_parL {ta tl : TE} {τa : TD} {τl : TLd} {i j : Nat} (ha : Snd C ta τa) (hl : SndL C tl τl) : SndS C (tPar i j (tCons ta (tCons tl tNil))) (dParL i j τa τl) := fun M0 B H σ ρ D E w ⟨am, s⟩ l h =>
  ha _ am H σ ρ _ _ s.env h fun v H1 d q a g r => hl _ am H1 σ ρ _ _ (s.go a g).env q fun p H2 vs ds ⟨hi, hj, q2⟩ n a2 g2 hp r2 => by
    have s2 := (s.go a g).putD (i := i) hi r
    have s3 := s2.putL (i := j) a2 g2 (by rw [List.length_set, ← s.env.len]; exact hj) n hp r2
    exact ⟨v, .ref p, rfl, l.nx _ _ _ ⟨_, s3⟩ q2⟩
theorem snd_parL1 {ta tl : TE} {τa : TD} {τl : TLd} {i j : Nat} (hl : SndL C tl τl) (ha : Snd C ta τa) : SndS C (tPar i j (tCons tl (tCons ta tNil))) (dParL1 i j τl τa) := fun M0 B H σ ρ D E w ⟨am, s⟩ l h =>
  hl _ am H σ ρ _ _ s.env h fun p H1 vs ds q n a g hp r => ha _ am H1 σ ρ _ _ (s.env.hide n a g hp) q fun v H2 d ⟨hi, hj, q2⟩ a2 g2 r2 => by
    have nW : ¬ C.W p := fun z => s.env.mok.fresh n (s.env.mok.sub _ z)
    have wp : ∀ b, C.W b → plus (mkN M0 am) p b := fun b z => .inl (s.env.mok.sub b z)
    have s2 := s.putL (i := i) (a.trans a2) g2 (by rw [← s.env.len]; exact hi) n (a2.keep hp nW (by intro _ z; cases z)) (r3s_sub (sub_go wp a2) _ _ r)
    have s3 := s2.putD (i := j) (by rw [List.length_set]; exact hj) (r3_sub (sub_less mkN_ons) _ _ r2)
    exact ⟨.ref p, v, rfl, l.nx _ _ _ ⟨_, s3⟩ q2⟩
theorem snd_parLL {ta tl : TE} {τa τl : TLd} {i j : Nat} (ha : SndL C ta τa) (hl : SndL C tl τl) : SndS C (tPar i j (tCons ta (tCons tl tNil))) (dParLL i j τa τl) := fun M0 B H σ ρ D E w ⟨am, s⟩ l h =>
  ha _ am H σ ρ _ _ s.env h fun p H1 vs ds q n a g hp r => hl _ am H1 σ ρ _ _ (s.env.hide n a g hp) q fun p2 H2 us es ⟨hi, hj, q2⟩ n2 a2 g2 hp2 r2 => by
    have s2 := s.putL (i := i) a g (by rw [← s.env.len]; exact hi) n hp r
    have le : ∀ b, plus (mkN M0 (ons am i p)) p2 b → plus (plus (mkN M0 am) p) p2 b := fun b h => h.imp (mkN_ons b) id
    have s3 := s2.putL (i := j) a2 g2 (by rw [List.length_set, ← s.env.len]; exact hj) n2 hp2 (r3s_sub (sub_less le) _ _ r2)
    exact ⟨.ref p, .ref p2, rfl, l.nx _ _ _ ⟨_, s3⟩ q2⟩
section
variable {i j : Nat} {x y : Str} {a b : Expr} {ta tl : TE} {τa : TD} {τl τk : TLd} {px py pt : Pos} {kt k2 pt2}
theorem qs_parL (hc : X.calm = true) (hN : X.N.Nodup) (hi : X.N[i]? = some x) (hj : X.N[j]? = some y) (hij : i ≠ j)
    (hx : X.env.scope.names.lookup x = some .local) (hy : X.env.scope.names.lookup y = some .local) (ha : PDE X C a ta τa) (hb : PDL X C b tl τl)
    (hw : swappedStores [.Tuple [.Name x px, .Name y py] kt pt] (.Tuple [a, b] k2 pt2) X.env = pure (some [x, y]))
    (h1 : starEach [a, b] X.env = (false, eval a X.env) :: starEach [b] X.env := by rfl) (h2 : starEach [b] X.env = (false, eval b X.env) :: starEach [] X.env := by rfl)
    (hs : swapsWithSole [.Tuple [.Name x px, .Name y py] kt pt] (.Tuple [a, b] k2 pt2) pos.line X.env = pure false := by rfl) :
    PDS X C (.Assign [.Tuple [.Name x px, .Name y py] kt pt] (.Tuple [a, b] k2 pt2) pos) (tPar i j (tCons ta (tCons tl tNil))) (dParL i j τa τl) := ⟨ps_par hc hN hi hj hij hx hy (pa_cons ha.pe (pa_cons hb.pe pa_nil h2) h1) hw hs, snd_parL ha.snd hb.snd⟩
theorem qs_parL1 (hc : X.calm = true) (hN : X.N.Nodup) (hi : X.N[i]? = some x) (hj : X.N[j]? = some y) (hij : i ≠ j)
    (hx : X.env.scope.names.lookup x = some .local) (hy : X.env.scope.names.lookup y = some .local) (ha : PDL X C a tl τl) (hb : PDE X C b ta τa)
    (hw : swappedStores [.Tuple [.Name x px, .Name y py] kt pt] (.Tuple [a, b] k2 pt2) X.env = pure (some [x, y]))
    (h1 : starEach [a, b] X.env = (false, eval a X.env) :: starEach [b] X.env := by rfl) (h2 : starEach [b] X.env = (false, eval b X.env) :: starEach [] X.env := by rfl)
    (hs : swapsWithSole [.Tuple [.Name x px, .Name y py] kt pt] (.Tuple [a, b] k2 pt2) pos.line X.env = pure false := by rfl) :
    PDS X C (.Assign [.Tuple [.Name x px, .Name y py] kt pt] (.Tuple [a, b] k2 pt2) pos) (tPar i j (tCons tl (tCons ta tNil))) (dParL1 i j τl τa) := ⟨ps_par hc hN hi hj hij hx hy (pa_cons ha.pe (pa_cons hb.pe pa_nil h2) h1) hw hs, snd_parL1 ha.snd hb.snd⟩
theorem qs_parLL {tk : TE} (hc : X.calm = true) (hN : X.N.Nodup) (hi : X.N[i]? = some x) (hj : X.N[j]? = some y) (hij : i ≠ j)
    (hx : X.env.scope.names.lookup x = some .local) (hy : X.env.scope.names.lookup y = some .local) (ha : PDL X C a tk τk) (hb : PDL X C b tl τl)
    (hw : swappedStores [.Tuple [.Name x px, .Name y py] kt pt] (.Tuple [a, b] k2 pt2) X.env = pure (some [x, y]))
    (h1 : starEach [a, b] X.env = (false, eval a X.env) :: starEach [b] X.env := by rfl) (h2 : starEach [b] X.env = (false, eval b X.env) :: starEach [] X.env := by rfl)
    (hs : swapsWithSole [.Tuple [.Name x px, .Name y py] kt pt] (.Tuple [a, b] k2 pt2) pos.line X.env = pure false := by rfl) :
    PDS X C (.Assign [.Tuple [.Name x px, .Name y py] kt pt] (.Tuple [a, b] k2 pt2) pos) (tPar i j (tCons tk (tCons tl tNil))) (dParLL i j τk τl) := ⟨ps_par hc hN hi hj hij hx hy (pa_cons ha.pe (pa_cons hb.pe pa_nil h2) h1) hw hs, snd_parLL ha.snd hb.snd⟩
/-- the same where the pair is made and taken apart (a captured name) -/
theorem snd_tupL (hij : i ≠ j) (ha : Snd C ta τa) (hl : SndL C tl τl) : SndS C (tAsg (tTup (tCons ta (tCons tl tNil))) (gTup X.K 2 (gCons (gName i) (gCons (gName j) gNil)))) (dParL i j τa τl) := fun M0 B H σ ρ D E w ⟨am, s⟩ l h =>
  ha _ am H σ ρ _ _ s.env h fun v H1 d q a g r => hl _ am H1 σ ρ _ _ (s.go a g).env q fun p H2 vs ds ⟨hi, hj, q2⟩ n a2 g2 hp r2 => by
    refine ⟨by show 2 ≤ sizeLine; decide, fun t ht => ⟨t, _, rfl, .of upd_same, rfl, v, [.ref p], rfl, .ref p, [], rfl, rfl, ?_⟩⟩
    have s1 := s.go a g
    have e2 := (s1.go a2 g2)
    have a3 : Go C H2 (upd H2 t (.tup [v, .ref p])) := GoN.laid ht
    have g3 := g2.laid (o := .tup [v, .ref p]) ht
    have s2 := s1.putD (i := i) hi r
    have npt : p ≠ t := ne_of_none hp ht
    have s3 := s2.putL (i := j) (a2.trans a3) g3 (by rw [List.length_set, ← s.env.len]; exact hj) n (by rw [upd_ne npt]; exact hp) (r3s_sub (sub_go (fun b z => .inl (mkN_W s1 b z)) a3) _ _ r2)
    exact l.nx _ _ _ ⟨_, s3⟩ q2
theorem qs_tupL (hN : X.N.Nodup) (hc : X.calm = true) (hij : i ≠ j) (ha : PDE X C a ta τa) (hb : PDL X C b tl τl) (hi : X.N[i]? = some x := by rfl) (hj : X.N[j]? = some y := by rfl)
    (hx : Loc X.env.scope x := by first | exact Or.inl rfl | exact Or.inr rfl) (hy : Loc X.env.scope y := by first | exact Or.inl rfl | exact Or.inr rfl)
    (fx : X.fn x = true ∨ X.env.scope.names.lookup x = some .local := by first | exact .inl rfl | exact .inr rfl) (fy : X.fn y = true ∨ X.env.scope.names.lookup y = some .local := by first | exact .inl rfl | exact .inr rfl)
    (h1 : starEach [a, b] X.env = (false, eval a X.env) :: starEach [b] X.env := by rfl) (h2 : starEach [b] X.env = (false, eval b X.env) :: starEach [] X.env := by rfl)
    (h3 : (assignEach [.Name x px, .Name y py] X.env).map (·.2) = assign (.Name x px) X.env :: (assignEach [.Name y py] X.env).map (·.2) := by rfl) (h4 : (assignEach [.Name y py] X.env).map (·.2) = assign (.Name y py) X.env :: (assignEach [] X.env).map (·.2) := by rfl)
    (hn : (assignEach [.Name x px, .Name y py] X.env).length = 2 := by rfl) (hst : (assignEach [.Name x px, .Name y py] X.env).findIdx? (·.1) = none := by rfl)
    (hs : swapsWithSole [.Tuple [.Name x px, .Name y py] kt pt] (.Tuple [a, b] k2 pt2) pos.line X.env = pure false := by rfl) (hw : swappedStores [.Tuple [.Name x px, .Name y py] kt pt] (.Tuple [a, b] k2 pt2) X.env = pure none := by rfl)
    (hv : (assignEach [.Tuple [.Name x px, .Name y py] kt pt] X.env).map (·.2) = [assign (.Tuple [.Name x px, .Name y py] kt pt) X.env] := by rfl) :
    PDS X C (.Assign [.Tuple [.Name x px, .Name y py] kt pt] (.Tuple [a, b] k2 pt2) pos) (tAsg (tTup (tCons ta (tCons tl tNil))) (gTup X.K 2 (gCons (gName i) (gCons (gName j) gNil)))) (dParL i j τa τl) :=
  ⟨ps_asg (pe_tup (pa_cons ha.pe (pa_cons hb.pe pa_nil h2) h1)) (pg_tup hc (pgs_cons (pg_name hN hi hx fx) (pgs_cons (pg_name hN hj hy fy) pgs_nil h4) h3) hn hst) hs hw hv, snd_tupL hij ha.snd hb.snd⟩
end
/-- made = (a new list, a new list) -/
def dSet2 (i : Nat) (t u : TLd) : TSd := fun D ρ => t ρ fun ds => u ρ fun es => i < ρ.length ∧ D.nx (ρ.set i (.own2 ds es))
def ons2 (am : Nat → Option Addr) (i : Nat) (p q : Addr) : Nat → Option Addr := fun j => if j = 2 * i then some p else if j = 2 * i + 1 then some q else am j
theorem snd_set2 {ta tl : TE} {τa τl : TLd} {i : Nat} (ha : SndL C ta τa) (hl : SndL C tl τl) : SndS C (tAsg (tTup (tCons ta (tCons tl tNil))) (gName i)) (dSet2 i τa τl) := fun M0 B H σ ρ D E w ⟨am, s⟩ l h =>
  ha _ am H σ ρ _ _ s.env h fun p H1 vs ds q n a g hp r => hl _ am H1 σ ρ _ _ (s.env.hide n a g hp) q fun p2 H2 us es ⟨hi, q2⟩ n2 a2 g2 hp2 r2 => by
    refine ⟨by show 2 ≤ sizeLine; decide, fun t ht => ?_⟩
    have li : i < σ.length := by rw [← s.env.len]; exact hi
    have nW : ¬ C.W p := fun z => s.env.mok.fresh n (s.env.mok.sub _ z)
    have hpk : H2 p = some (.lst vs) := a2.keep hp nW (by intro _ z; cases z)
    have np2 : p ≠ p2 := ne_of_none hp n2
    have npt : p ≠ t := ne_of_none hpk ht
    have np2t : p2 ≠ t := ne_of_none hp2 ht
    have n2' : H p2 = none := a.free (fun z => s.env.mok.fresh n (by
      have k := (s.go a g).env.mok.fresh n2 (s.env.mok.sub _ z)
      exact k.elim)) n2
    have a3 : Go C H2 (upd H2 t (.tup [.ref p, .ref p2])) := GoN.laid ht
    have g3 := g2.laid (o := .tup [.ref p, .ref p2]) ht
    have o1 : ons2 am i p p2 (2 * i) = some p := if_pos rfl
    have o2 : ons2 am i p p2 (2 * i + 1) = some p2 := (if_neg (by omega)).trans (if_pos rfl)
    have le : ∀ b, mkN M0 (ons2 am i p p2) b → plus (plus (mkN M0 am) p) p2 b := fun b h => by
      rcases h with h | ⟨j, h⟩
      · exact .inl (.inl (.inl h))
      · unfold ons2 at h
        by_cases z1 : j = 2 * i
        · rw [if_pos z1] at h
          exact .inl (.inr (Option.some.inj h).symm)
        · rw [if_neg z1] at h
          by_cases z2 : j = 2 * i + 1
          · rw [if_pos z2] at h
            exact .inr (Option.some.inj h).symm
          · rw [if_neg z2] at h
            exact .inl (.inl (.inr ⟨j, h⟩))
    have wp : ∀ b, C.W b → plus (plus (mkN M0 am) p) p2 b := fun b z => .inl (.inl (s.env.mok.sub b z))
    have wp1 : ∀ b, C.W b → plus (mkN M0 am) p b := fun b z => .inl (s.env.mok.sub b z)
    have m2 := (s.go (a.trans a2) g2).env.mok
    have nt : ¬ mkN M0 (ons2 am i p p2) t := fun z => by
      rcases le t z with (z | z) | z
      · exact m2.fresh ht z
      · exact npt z.symm
      · exact np2t z.symm
    have r1 : R3s (wo (upd H2 t (.tup [.ref p, .ref p2])) (mkN M0 (ons2 am i p p2))) vs ds := by
      have k1 := r3s_sub (sub_go wp1 a2) _ _ r
      -- what the first list holds stood ahead of the second
      have k2 : Sub (wo H1 (plus (mkN M0 am) p)) (wo (upd H2 t (.tup [.ref p, .ref p2])) (plus (plus (mkN M0 am) p) p2)) := fun b o e h => by
        obtain ⟨y1, y2⟩ := wo_some e
        rw [wo_not fun z => z.elim y1 (ne_of_none y2 n2)]
        exact (a2.trans a3).keep y2 (fun z => y1 (wp1 b z)) h
      exact r3s_sub (sub_less le) _ _ (r3s_sub k2 _ _ r)
    have r3 : R3s (wo (upd H2 t (.tup [.ref p, .ref p2])) (mkN M0 (ons2 am i p p2))) us es := r3s_sub (sub_less le) _ _ (r3s_sub (sub_go wp a3) _ _ r2)
    have s3 := s.fresh (am' := ons2 am i p p2) (i := i) (v := .ref t) (c := .own2 ds es) ((a.trans a2).trans a3) g3 li (fun j z1 z2 => (if_neg z1).trans (if_neg z2)) (fun j b hj e => by
        rcases hj with hj | hj
        · rw [hj, o1] at e
          cases e
          exact ⟨n, vs, by rw [upd_ne npt]; exact hpk⟩
        · rw [hj, o2] at e
          cases e
          exact ⟨n2', us, by rw [upd_ne np2t]; exact hp2⟩) (fun b e1 e2 => by
        rw [o1] at e1
        rw [o2] at e2
        cases e1
        cases e2
        exact np2 rfl) ⟨t, p, p2, vs, us, o1, o2, List.getElem?_set_self li, by rw [wo_not nt]; exact upd_same, by rw [upd_ne npt]; exact hpk, by rw [upd_ne np2t]; exact hp2, r1, r3⟩
    exact l.nx _ _ _ ⟨_, s3⟩ q2
theorem qs_set2 {i : Nat} {x : Str} {a b : Expr} {ta tl : TE} {τa τl : TLd} {pos' : Pos} {k2 pt2} (hN : X.N.Nodup) (ha : PDL X C a ta τa) (hb : PDL X C b tl τl) (hi : X.N[i]? = some x := by rfl) (hx : Loc X.env.scope x := by first | exact Or.inl rfl | exact Or.inr rfl)
    (h1 : starEach [a, b] X.env = (false, eval a X.env) :: starEach [b] X.env := by rfl) (h2 : starEach [b] X.env = (false, eval b X.env) :: starEach [] X.env := by rfl)
    (hs : swapsWith (.Tuple [a, b] k2 pt2) (some (.Name x pos')) pos.line X.env = pure false := by rfl)
    (hf : X.fn x = true ∨ X.env.scope.names.lookup x = some .local := by first | exact .inl rfl | exact .inr rfl) : PDS X C (.Assign [.Name x pos'] (.Tuple [a, b] k2 pt2) pos) (tAsg (tTup (tCons ta (tCons tl tNil))) (gName i)) (dSet2 i τa τl) := ⟨ps_set hN hi hx (pe_tup (pa_cons ha.pe (pa_cons hb.pe pa_nil h2) h1)) hs hf, snd_set2 ha.snd hb.snd⟩
end
end L3
namespace L3
open PySem L2
open PySem.Spec
/-! ### what is walked -/
structure ItOk (C : C3) (N : Msk) (J : It) (H1 : Hp) (xs : List PyData) : Prop where
  go : ∀ i H, GoN N H1 H → i < xs.length → J.go i H
  stop : ∀ H, GoN N H1 H → J.stop xs.length H
  yld : ∀ i H x H' N', GoN N H1 H → Sub (wo H1 N) (wo H N') → Mok C N' H → Glob C H → i < xs.length → J.yld i H x H' → ∃ d, xs[i]? = some d ∧ Go C H H' ∧ Glob C H' ∧ R3 (wo H' N') x d
abbrev TId := Env3 → (List PyData → Prop) → Prop
def SndI (C : C3) (wi : TI) (ι : TId) : Prop := ∀ (N : Msk) (am : Nat → Option Addr) (H : Hp) (σ : L2.St) (ρ : Env3) (QI : List PyData → Prop) (R : It → Hp → Prop), EnvA C N am H σ ρ → ι ρ QI →
  (∀ J H' xs, QI xs → Go C H H' → Glob C H' → ItOk C N J H' xs → R J H') → wi σ H R
structure PDI (X : Cx) (C : C3) (tg e : Expr) (wi : TI) (ι : TId) : Prop where
  pi : PI X tg e wi
  snd : SndI C wi ι
def dList (τ : TD) : TId := fun ρ Q => τ ρ fun d => ∃ ds, d = .list ds ∧ Q ds
def dTupl (τ : TD) : TId := fun ρ Q => τ ρ fun d => ∃ ds, d = .tuple ds ∧ Q ds
def rgN (a : Int) (n : Nat) : List PyData := (List.range n).map fun i => PyData.int (a + (i : Nat))
def dRng1 (τ : TD) : TId := fun ρ Q => τ ρ fun d => ∃ j : Int, d = .int j ∧ -(2 ^ 62) ≤ j ∧ j < 2 ^ 62 ∧ Q (rgN 0 j.toNat)
def dRng2 (τ υ : TD) : TId := fun ρ Q => τ ρ fun d => υ ρ fun e => ∃ i j : Int, d = .int i ∧ e = .int j ∧ (-(2 ^ 62) ≤ i ∧ i < 2 ^ 62 ∧ -(2 ^ 62) ≤ j ∧ j < 2 ^ 62) ∧ Q (rgN i (j - i).toNat)
def enD : Nat → List PyData → List PyData
  | _, [] => []
  | k, d :: ds => .tuple [.int (k : Nat), d] :: enD (k + 1) ds
def dEnum (τ : TD) : TId := fun ρ Q => τ ρ fun d => ∃ ds, d = .list ds ∧ Q (enD 0 ds)
def dEnumT (τ : TD) : TId := fun ρ Q => τ ρ fun d => ∃ ds, d = .tuple ds ∧ Q (enD 0 ds)
def zipD : List PyData → List PyData → List PyData
  | d :: ds, e :: es => .tuple [d, e] :: zipD ds es
  | _, _ => []
def dZip (τ υ : TD) : TId := fun ρ Q => τ ρ fun d => υ ρ fun e => ∃ ds es, d = .list ds ∧ e = .list es ∧ ds.length = es.length ∧ Q (zipD ds es)
theorem enD_len : ∀ (k : Nat) (ds : List PyData), (enD k ds).length = ds.length
  | _, [] => rfl
  | k, d :: ds => by rw [enD, List.length_cons, List.length_cons, enD_len]
theorem enD_get : ∀ (k : Nat) (ds : List PyData) (i : Nat), (enD k ds)[i]? = ds[i]?.map fun d => PyData.tuple [.int ((k + i : Nat) : Nat), d]
  | _, [], _ => by simp [enD]
  | k, d :: ds, 0 => by simp [enD]
  | k, d :: ds, i + 1 => by
    rw [enD, List.getElem?_cons_succ, List.getElem?_cons_succ, enD_get (k + 1) ds i]
    have e : k + 1 + i = k + (i + 1) := by omega
    rw [e]
theorem zipD_len : ∀ (ds es : List PyData), ds.length = es.length → (zipD ds es).length = ds.length
  | [], _, _ => by simp [zipD]
  | d :: ds, [], h => by simp at h
  | d :: ds, e :: es, h => by rw [zipD, List.length_cons, List.length_cons, zipD_len ds es (by simpa using h)]
theorem zipD_get : ∀ (ds es : List PyData) (i : Nat) (d e : PyData), ds[i]? = some d → es[i]? = some e → (zipD ds es)[i]? = some (.tuple [d, e])
  | [], _, _, _, _, h, _ => by simp at h
  | _ :: _, [], _, _, _, _, h => by simp at h
  | d :: ds, e :: es, 0, _, _, h1, h2 => by
    simp at h1 h2
    subst h1 h2
    simp [zipD]
  | d :: ds, e :: es, i + 1, _, _, h1, h2 => by
    rw [zipD, List.getElem?_cons_succ]
    exact zipD_get ds es i _ _ (by simpa using h1) (by simpa using h2)
section
variable {K : PySem.W.Frag} {C : C3} {N : Msk} {H1 : Hp} {a b : Addr} {us ws : List V} {ds es : List PyData}
theorem it_list (ha : wo H1 N a = some (.lst us)) (r : R3s (wo H1 N) us ds) : ItOk C N (Itl K a) H1 ds := by
  obtain ⟨n, h⟩ := wo_some ha
  have k : ∀ {H}, GoN N H1 H → SqL K H a us := fun q => .of (q.keep h n (by intro _ z; cases z))
  refine ⟨fun i H q hi => ?_, fun H q => ⟨us, k q, by rw [r3s_len r]; exact Nat.le_refl _⟩, fun i H x H' N' q sub m g hi y => ?_⟩
  · obtain ⟨v, h1, _⟩ := r3s_get r (List.getElem?_eq_getElem hi)
    exact ⟨us, v, k q, h1⟩
  · obtain ⟨rfl, y⟩ := y
    obtain ⟨d, h1, h2⟩ := r3s_get2 r (y us (k q))
    exact ⟨d, h1, GoN.refl, g, r3_sub sub _ _ h2⟩
theorem it_tup (ha : wo H1 N a = some (.tup us)) (r : R3s (wo H1 N) us ds) : ItOk C N (Itt K a) H1 ds := by
  obtain ⟨n, h⟩ := wo_some ha
  have k : ∀ {H}, GoN N H1 H → SqT K H a us := fun q => .of (q.keep h n (by intro _ z; cases z))
  refine ⟨fun i H q hi => ?_, fun H q => ⟨us, k q, by rw [r3s_len r]; exact Nat.le_refl _⟩, fun i H x H' N' q sub m g hi y => ?_⟩
  · obtain ⟨v, h1, _⟩ := r3s_get r (List.getElem?_eq_getElem hi)
    exact ⟨us, v, k q, h1⟩
  · obtain ⟨rfl, y⟩ := y
    obtain ⟨d, h1, h2⟩ := r3s_get2 r (y us (k q))
    exact ⟨d, h1, GoN.refl, g, r3_sub sub _ _ h2⟩
theorem rgN_get (a : Int) (n i : Nat) (h : i < n) : (rgN a n)[i]? = some (.int (a + (i : Nat))) := by
  unfold rgN
  rw [List.getElem?_map, List.getElem?_range h]
  rfl
theorem it_rng (lo : Int) (n : Nat) : ItOk C N (Itr lo n) H1 (rgN lo n) := by
  have hl : (rgN lo n).length = n := by unfold rgN; rw [List.length_map, List.length_range]
  refine ⟨fun i H q hi => by rw [hl] at hi; exact hi, fun H q => by rw [hl]; exact Nat.le_refl _, fun i H x H' N' q sub m g hi y => ?_⟩
  obtain ⟨rfl, rfl⟩ := y
  rw [hl] at hi
  exact ⟨_, rgN_get lo n i hi, GoN.refl, g, .int _⟩
theorem it_enum (ha : wo H1 N a = some (.lst us)) (r : R3s (wo H1 N) us ds) : ItOk C N (Ite K a) H1 (enD 0 ds) := by
  obtain ⟨n, h⟩ := wo_some ha
  have k : ∀ {H}, GoN N H1 H → SqL K H a us := fun q => .of (q.keep h n (by intro _ z; cases z))
  refine ⟨fun i H q hi => ?_, fun H q => ⟨us, k q, by rw [r3s_len r, enD_len]; exact Nat.le_refl _⟩, fun i H x H' N' q sub m g hi y => ?_⟩
  · rw [enD_len] at hi
    obtain ⟨v, h1, _⟩ := r3s_get r (List.getElem?_eq_getElem hi)
    exact ⟨us, v, k q, h1⟩
  · obtain ⟨T, v, rfl, nT, rfl, y⟩ := y
    obtain ⟨d, h1, h2⟩ := r3s_get2 r (y us (k q))
    obtain ⟨a1, g1, w1, s1⟩ := lay m g (o := .tup [.int (i : Nat), v]) nT
    refine ⟨_, by rw [enD_get, h1]; rfl, a1, g1, .tup w1 (.cons ?_ (.cons (r3_sub s1 _ _ (r3_sub sub _ _ h2)) .nil))⟩
    rw [Nat.zero_add]
    exact .int _
theorem it_zip (ha : wo H1 N a = some (.lst us)) (r : R3s (wo H1 N) us ds) (hb : wo H1 N b = some (.lst ws)) (r' : R3s (wo H1 N) ws es) (hl : ds.length = es.length) : ItOk C N (Itz K a b) H1 (zipD ds es) := by
  obtain ⟨n, h⟩ := wo_some ha
  obtain ⟨n', h'⟩ := wo_some hb
  have k : ∀ {H}, GoN N H1 H → SqL K H a us := fun q => .of (q.keep h n (by intro _ z; cases z))
  have k' : ∀ {H}, GoN N H1 H → SqL K H b ws := fun q => .of (q.keep h' n' (by intro _ z; cases z))
  have hz := zipD_len ds es hl
  refine ⟨fun i H q hi => ?_, fun H q => ⟨us, ws, k q, k' q, .inl (by rw [r3s_len r, hz]; exact Nat.le_refl _)⟩, fun i H x H' N' q sub m g hi y => ?_⟩
  · rw [hz] at hi
    obtain ⟨v, h1, _⟩ := r3s_get r (List.getElem?_eq_getElem hi)
    obtain ⟨v', h1', _⟩ := r3s_get r' (List.getElem?_eq_getElem (show i < es.length by omega))
    exact ⟨us, ws, v, v', k q, k' q, h1, h1'⟩
  · obtain ⟨T, v, v', rfl, nT, rfl, y, y'⟩ := y
    obtain ⟨d, h1, h2⟩ := r3s_get2 r (y us (k q))
    obtain ⟨e, h3, h4⟩ := r3s_get2 r' (y' ws (k' q))
    obtain ⟨a1, g1, w1, s1⟩ := lay m g (o := .tup [v, v']) nT
    exact ⟨_, zipD_get ds es i d e h1 h3, a1, g1, .tup w1 (.cons (r3_sub s1 _ _ (r3_sub sub _ _ h2)) (.cons (r3_sub s1 _ _ (r3_sub sub _ _ h4)) .nil))⟩
end
section
variable {X : Cx} {C : C3} {tg e : Expr} {te : TE} {τ : TD} {pos p : Pos}
theorem qi_list (h : PDE X C e te τ) : PDI X C tg e (iList X.K te) (dList τ) := ⟨pi_list h.pe, fun N am H σ ρ QI R en q hR => h.snd N am H σ ρ _ _ en q fun v H1 d ⟨ds, ed, q1⟩ a g r => by
  subst ed
  cases r with
  | @lst b us _ hb hu => exact ⟨b, rfl, ⟨us, .of (wo_some hb).2⟩, hR _ H1 ds q1 a g (it_list hb hu)⟩⟩
theorem qi_tup (h : PDE X C e te τ) : PDI X C tg e (iTup X.K te) (dTupl τ) := ⟨pi_tup h.pe, fun N am H σ ρ QI R en q hR => h.snd N am H σ ρ _ _ en q fun v H1 d ⟨ds, ed, q1⟩ a g r => by
  subst ed
  cases r with
  | @tup b us _ hb hu => exact ⟨b, rfl, ⟨us, .of (wo_some hb).2⟩, hR _ H1 ds q1 a g (it_tup hb hu)⟩⟩
theorem qi_rng1 (hg : Gl X "range") (hm : X.mg "range" = none) (h : PDE X C e te τ) (hs : starEach [e] X.env = [(false, eval e X.env)] := by rfl) : PDI X C tg (.Call (.Name "range" p) [e] [] pos) (iRng1 (tCons te tNil)) (dRng1 τ) :=
  ⟨pi_range1 hg hm (pa_cons h.pe pa_nil hs) hs, fun N am H σ ρ QI R en q hR => h.snd N am H σ ρ _ _ en q fun v H1 d ⟨j, ed, z1, z2, q1⟩ a g r => by
    subst ed
    cases r
    exact ⟨j, rfl, z1, z2, hR _ H1 _ q1 a g (it_rng 0 _)⟩⟩
theorem qi_rng2 {e2 : Expr} {te2 : TE} {υ : TD} (hg : Gl X "range") (hm : X.mg "range" = none) (h : PDE X C e te τ) (h' : PDE X C e2 te2 υ) (hs : starEach [e, e2] X.env = [(false, eval e X.env), (false, eval e2 X.env)] := by rfl) (hs2 : starEach [e2] X.env = [(false, eval e2 X.env)] := by rfl) :
    PDI X C tg (.Call (.Name "range" p) [e, e2] [] pos) (iRng2 (tCons te (tCons te2 tNil))) (dRng2 τ υ) :=
  ⟨pi_range2 hg hm (pa_cons h.pe (pa_cons h'.pe pa_nil hs2) (by rw [hs, hs2])) hs hs2, fun N am H σ ρ QI R en q hR => h.snd N am H σ ρ _ _ en q fun v H1 d q1 a g r => h'.snd N am H1 σ ρ _ _ (en.go a g) q1 fun v2 H2 d2 ⟨i, j, e1, e2, z, q2⟩ a2 g2 r2 => by
    subst e1
    subst e2
    cases r
    cases r2
    exact ⟨i, j, rfl, z, hR _ H2 _ q2 (a.trans a2) g2 (it_rng i _)⟩⟩
theorem qi_enum {tpos : Pos} {elts : List Expr} {kk : Nat} (hg : Gl X "enumerate") (hm : X.mg "enumerate" = none) (h : PDE X C e te τ) (hs : starEach [e] X.env = [(false, eval e X.env)] := by rfl) : PDI X C (.Tuple elts kk tpos) (.Call (.Name "enumerate" p) [e] [] pos) (iEnum X.K (tCons te tNil)) (dEnum τ) :=
  ⟨pi_enum hg hm (pa_cons h.pe pa_nil hs) hs, fun N am H σ ρ QI R en q hR => h.snd N am H σ ρ _ _ en q fun v H1 d ⟨ds, ed, q1⟩ a g r => by
    subst ed
    cases r with
    | @lst b us _ hb hu => exact ⟨b, us, rfl, .of (wo_some hb).2, hR _ H1 _ q1 a g (it_enum hb hu)⟩⟩
theorem qi_zip {e2 : Expr} {te2 : TE} {υ : TD} {tpos : Pos} {elts : List Expr} {kk : Nat} (hg : Gl X "zip") (hm : X.mg "zip" = none) (h : PDE X C e te τ) (h' : PDE X C e2 te2 υ)
    (hs : starEach [e, e2] X.env = (false, eval e X.env) :: starEach [e2] X.env := by rfl) (hs2 : starEach [e2] X.env = [(false, eval e2 X.env)] := by rfl) (hpl : (backTo pos (starEach [e2] X.env)).any (·.1) = false := by rfl) :
    PDI X C (.Tuple elts kk tpos) (.Call (.Name "zip" p) [e, e2] [] pos) (iZip X.K (tCons te (tCons te2 tNil))) (dZip τ υ) :=
  ⟨pi_zip hg hm (pa_cons h.pe (pa_cons h'.pe pa_nil hs2) hs) hs hpl, fun N am H σ ρ QI R en q hR => h.snd N am H σ ρ _ _ en q fun v H1 d q1 a g r => h'.snd N am H1 σ ρ _ _ (en.go a g) q1 fun v2 H2 d2 ⟨ds, es, e1, e2, z, q2⟩ a2 g2 r2 => by
    subst e1
    subst e2
    have r' := r3_sub (sub_go en.mok.sub a2) _ _ r
    cases r' with
    | @lst b us _ hb hu =>
      cases r2 with
      | @lst c ws _ hc hw => exact ⟨b, c, us, ws, rfl, .of (wo_some hb).2, .of (wo_some hc).2, hR _ H2 _ q2 (a.trans a2) g2 (it_zip hb hu hc hw z)⟩⟩

/-! ### for -/
def forGo (γ : TGd) (τb : TSd) : List PyData → TSd
  | [], D, ρ => D.nx ρ
  | x :: xs, D, ρ => γ x ρ fun ρ2 => τb { D with nx := fun ρ' => forGo γ τb xs D ρ', ct := fun ρ' => forGo γ τb xs D ρ', bk := D.nx } ρ2
def dFor (ι : TId) (γ : TGd) (τb : TSd) : TSd := fun D ρ => ι ρ fun xs => forGo γ τb xs D ρ
theorem S3.less {C : C3} {M0 : Msk} {p : Hp × Msk} {B : Bs} {H : Hp} {σ : L2.St} {ρ : Env3} (s : S3 C M0 (p :: B) H σ ρ) : S3 C M0 B H σ ρ := let ⟨am, s⟩ := s
  ⟨am, s.env, s.out, fun q hq => s.base q (List.mem_cons_of_mem _ hq)⟩
theorem snd_for {wi : TI} {ι : TId} {g : TG} {γ : TGd} {tb : TS} {τb : TSd} (hi : SndI C wi ι) (hg : SndG C g γ) (hb : SndS C tb τb) : SndS C (tFor wi g tb) (dFor ι γ τb) := fun M0 B H σ ρ D E w ⟨am, s⟩ l h =>
  hi _ am H σ ρ _ _ s.env h fun J H1 xs q a g1 it => by
    have s1 := s.go a g1
    have B1 : SA C M0 ((H1, mkN M0 am) :: B) am H1 σ ρ := ⟨s1.env, s1.out, fun p hp => by
      rcases List.mem_cons.mp hp with e | hp
      · subst e
        exact ⟨GoN.refl, s1.env.mok.sub, fun i b e => .inl (.inr ⟨i, e⟩)⟩
      · exact s1.base p hp⟩
    refine ⟨fun i m σ H => m = xs.length - i ∧ i ≤ xs.length ∧ ∃ ρ, S3 C M0 ((H1, mkN M0 am) :: B) H σ ρ ∧ forGo γ τb (xs.drop i) D ρ, ⟨xs.length, by simp, Nat.zero_le _, ρ, ⟨am, B1⟩, q⟩, ?_⟩
    rintro i m σ2 H2 ⟨rfl, hle, ρ2, ⟨am2, s2⟩, f2⟩
    obtain ⟨k1, k2, k3⟩ := s2.base (H1, mkN M0 am) (List.mem_cons_self)
    by_cases hlt : i < xs.length
    · refine .inr ⟨it.go i H2 k1 hlt, fun σ' H' => ∃ ρ', S3 C M0 ((H1, mkN M0 am) :: B) H' σ' ρ' ∧ forGo γ τb (xs.drop (i + 1)) D ρ', fun σ' H' ⟨ρ', s', f'⟩ => ⟨xs.length - (i + 1), by omega, rfl, hlt, ρ', s', f'⟩, fun x H3 y => ?_⟩
      have sub : Sub (wo H1 (mkN M0 am)) (wo H2 (mkN M0 am2)) := fun b o eb hb => by
        obtain ⟨n1, e1⟩ := wo_some eb
        have n2 : ¬ mkN M0 am2 b := fun z => by
          rcases z with z | ⟨j, z⟩
          · exact n1 (.inl z)
          · rcases k3 j b z with z | z
            · exact n1 z
            · rw [show H1 b = none from z] at e1
              cases e1
        rw [wo_not n2]
        exact k1.keep e1 n1 hb
      obtain ⟨d, hd, a3, g3, r3⟩ := it.yld i H2 x H3 _ k1 sub s2.env.mok s2.env.glob hlt y
      have ed : xs.drop i = d :: xs.drop (i + 1) := by
        rw [List.drop_eq_getElem_cons hlt]
        rw [List.getElem?_eq_getElem hlt] at hd
        rw [Option.some.inj hd]
      rw [ed] at f2
      refine hg _ am2 H3 σ2 ρ2 x d _ _ (s2.go a3 g3).env r3 f2 fun σ4 ρ4 s4 q4 => ?_
      refine hb M0 _ H3 σ4 ρ4 { D with nx := fun ρ' => forGo γ τb (xs.drop (i + 1)) D ρ', ct := fun ρ' => forGo γ τb (xs.drop (i + 1)) D ρ', bk := D.nx } _ w ⟨am2, s4, (s2.go a3 g3).out, (s2.go a3 g3).base⟩ ⟨fun σ5 H5 ρ5 s5 q5 => ⟨ρ5, s5, q5⟩, fun v H5 d5 q5 k5 => l.rt v H5 d5 q5 fun p hp => k5 p (List.mem_cons_of_mem _ hp), fun σ5 H5 ρ5 s5 q5 => l.nx σ5 H5 ρ5 s5.less q5, fun σ5 H5 ρ5 s5 q5 => ⟨ρ5, s5, q5⟩⟩ q4
    · have e : i = xs.length := by omega
      subst e
      rw [List.drop_length] at f2
      exact .inl ⟨it.stop H2 k1, l.nx _ _ ρ2 (S3.less ⟨am2, s2⟩) f2⟩
theorem qs_for {iter : Expr} {body : List Stmt} {wi : TI} {ι : TId} {g : TG} {γ : TGd} {ks : List Nat} {tb : TS} {τb : TSd} (hp : PassesOwn (model X.prog X.w) X.A X.env X.xe) (hc : X.calm = true) (hi : PDI X C tg iter wi ι) (hg : PDG X C tg g γ ks) (hb : PDSs X C body tb τb)
    (hs : ∀ x, foldedSetIterable iter X.env x = pure x := by intro _; rfl) : PDS X C (.For tg iter body [] pos) (tFor wi g tb) (dFor ι γ τb) := ⟨ps_for hp hc hi.pi hg.pg hb.ps hs, snd_for hi.snd hg.snd hb.snd⟩
end
end L3
namespace L3
open PySem L2
open PySem.Spec
/-! ### comprehensions -/
def wipeD (ρ : Env3) : List Nat → Env3
  | [] => ρ
  | v :: vs => (wipeD ρ vs).set v .un
theorem wipeD_len (ρ : Env3) : ∀ vs, (wipeD ρ vs).length = ρ.length
  | [] => rfl
  | v :: vs => by rw [wipeD, List.length_set, wipeD_len ρ vs]
theorem wipe_at (σ : L2.St) : ∀ (vs : List Nat) (j : Nat), j ∉ vs → (wipe σ vs)[j]? = σ[j]?
  | [], _, _ => rfl
  | v :: vs, j, h => by
    rw [wipe, List.getElem?_set_ne fun z => h (by simp [z])]
    exact wipe_at σ vs j fun z => h (List.mem_cons_of_mem _ z)
theorem wipe_in (σ : L2.St) : ∀ (vs : List Nat) (j : Nat), j ∈ vs → j < σ.length → (wipe σ vs)[j]? = some none
  | [], _, h, _ => by simp at h
  | v :: vs, j, h, hl => by
    rw [wipe]
    by_cases e : v = j
    · subst e
      rw [List.getElem?_set_self (by rw [wipe_length]; exact hl)]
    · rw [List.getElem?_set_ne e]
      exact wipe_in σ vs j ((List.mem_cons.mp h).resolve_left fun z => e z.symm) hl
theorem wipe_same {σ σ2 : L2.St} {vs ks : List Nat} (a : Agree ks (wipe σ vs) σ2) (h : ∀ k ∈ ks, k ∈ vs) : wipe σ2 vs = wipe σ vs := by
  have hl : σ2.length = σ.length := a.1.trans (wipe_length σ vs)
  apply List.ext_getElem?
  intro j
  by_cases hj : j ∈ vs
  · by_cases hlt : j < σ.length
    · rw [wipe_in σ2 vs j hj (by omega), wipe_in σ vs j hj hlt]
    · rw [List.getElem?_eq_none (by rw [wipe_length]; omega), List.getElem?_eq_none (by rw [wipe_length]; omega)]
  · rw [wipe_at σ2 vs j hj]
    exact a.2 j fun z => hj (h j z)
section
variable {C : C3} {N : Msk} {am : Nat → Option Addr} {H : Hp} {σ : L2.St} {ρ : Env3}
theorem wipeD_at (ρ : Env3) : ∀ (vs : List Nat) (j : Nat) (c : Cell), (wipeD ρ vs)[j]? = some c → c = .un ∨ (j ∉ vs ∧ ρ[j]? = some c)
  | [], _, _, h => .inr ⟨by simp, h⟩
  | v :: vs, j, c, h => by
    rw [wipeD] at h
    by_cases e : v = j
    · subst e
      by_cases hl : v < (wipeD ρ vs).length
      · rw [List.getElem?_set_self hl] at h
        exact .inl (Option.some.inj h).symm
      · rw [List.getElem?_eq_none (by rw [List.length_set]; omega)] at h
        cases h
    · rw [List.getElem?_set_ne e] at h
      rcases wipeD_at ρ vs j c h with z | ⟨z1, z2⟩
      · exact .inl z
      · exact .inr ⟨fun z => (List.mem_cons.mp z).elim (fun y => e y.symm) z1, z2⟩
theorem EnvA.wipe (e : EnvA C N am H σ ρ) (vs : List Nat) : EnvA C N am H (wipe σ vs) (wipeD ρ vs) := by
  refine ⟨e.mok, e.glob, by rw [wipeD_len, wipe_length]; exact e.len, fun j k q => ?_, e.amN, e.inj⟩
  rcases wipeD_at ρ vs j k q with z | ⟨hj, q⟩
  · subst z
    trivial
  · have k0 := e.sl j k q
    have hs : (L2.wipe σ vs)[j]? = σ[j]? := wipe_at σ vs j hj
    cases k with
    | un => exact k0
    | dat d =>
      obtain ⟨v, h1, h2⟩ := k0
      exact ⟨v, hs.trans h1, h2⟩
    | own ds =>
      obtain ⟨a, vs, h1, h2, h3⟩ := k0
      exact ⟨a, vs, h1, hs.trans h2, h3⟩
    | own2 ds es =>
      obtain ⟨t, b, c, vs, us, h1, h2, h3, h4⟩ := k0
      exact ⟨t, b, c, vs, us, h1, h2, hs.trans h3, h4⟩
    | val v => exact hs.trans k0
end
def lcGo (γ : TGd) (υ : TTd) (τe : TD) (vs : List Nat) (ρ : Env3) (Q : List PyData → Prop) : List PyData → List PyData → Prop
  | [], acc => Q acc
  | x :: xs, acc => γ x (wipeD ρ vs) fun ρ2 => υ ρ2 fun b => match b with
    | true => τe ρ2 fun y => acc.length < 100000 ∧ lcGo γ υ τe vs ρ Q xs (acc ++ [y])
    | false => lcGo γ υ τe vs ρ Q xs acc
def dLc (ι : TId) (γ : TGd) (υ : TTd) (τe : TD) (vs : List Nat) : TLd := fun ρ Q => ι ρ fun xs => lcGo γ υ τe vs ρ Q xs []
theorem upd_go {C : C3} {H1 H4 : Hp} {D : Addr} {o : HO} (n : H1 D = none) (a : Go C H1 H4) : Go C H1 (upd H4 D o) := fun b u e w => by
  rw [upd_ne (ne_of_none e n)]
  exact a b u e w
theorem glob_upd {C : C3} {H : Hp} {D : Addr} {vs us : List V} (g : Glob C H) (h : H D = some (.lst vs)) (w : ¬ C.W D) : Glob C (upd H D (.lst us)) := by
  refine ⟨tabs_but g.tabs fun b o e hb _ => ?_, fun q hq => ?_⟩
  · rw [upd_ne fun z => hb vs (Option.some.inj (e.symm.trans (by rw [z]; exact h)))]
    exact e
  · obtain ⟨cs, m, d, z, ne, k1, k2⟩ := g.deck q hq
    exact ⟨cs, m, d, z, ne, by rw [upd_ne fun z => w ⟨q, hq, .inl z.symm⟩]; exact k1, by rw [upd_ne fun z => w ⟨q, hq, .inr z.symm⟩]; exact k2⟩
theorem snd_lc {C : C3} {wi : TI} {ι : TId} {g : TG} {γ : TGd} {tt : TT} {υ : TTd} {te : TE} {τe : TD} {vs ks : List Nat} (hi : SndI C wi ι) (hg : SndG C g γ) (kp : Keeps g ks) (mo : ∀ v σ H (Q Q' : L2.St → Hp → Prop), (∀ σ' H', Q σ' H' → Q' σ' H') → g v σ H Q → g v σ H Q')
    (hk : ∀ k ∈ ks, k ∈ vs) (ht : SndT C tt υ) (he : Snd C te τe) : SndL C (tLc wi g tt te vs) (dLc ι γ υ τe vs) := fun N am H σ ρ QD Q e h hQ =>
  hi N am H σ ρ _ _ e h fun J H1 xs q a g1 it D nD => by
    have e1 := e.go a g1
    have nW : ¬ C.W D := fun z => e1.mok.fresh nD (e1.mok.sub _ z)
    have nN : ¬ N D := e1.mok.fresh nD
    refine ⟨fun i m H => m = xs.length - i ∧ i ≤ xs.length ∧ ∃ us acc, lcGo γ υ τe vs ρ QD (xs.drop i) acc ∧ H D = some (.lst us) ∧ R3s (wo H (plus N D)) us acc ∧ Go C H1 H ∧ Glob C H, ⟨xs.length, by simp, Nat.zero_le _, [], [], q, upd_same, .nil, GoN.laid nD, g1.laid nD⟩, ?_⟩
    rintro i m H2 ⟨rfl, hle, us, acc, f2, hD, rD, a2, g2⟩
    have aN : GoN N H1 H2 := a2.mono e1.mok.sub
    by_cases hlt : i < xs.length
    · refine .inr ⟨it.go i H2 aN hlt, fun H' => ∃ us acc, lcGo γ υ τe vs ρ QD (xs.drop (i + 1)) acc ∧ H' D = some (.lst us) ∧ R3s (wo H' (plus N D)) us acc ∧ Go C H1 H' ∧ Glob C H', fun H' hN => ⟨xs.length - (i + 1), by omega, rfl, hlt, hN⟩, fun x H3 y => ?_⟩
      have e2 := e1.hide nD a2 g2 hD
      have sub : Sub (wo H1 N) (wo H2 (plus N D)) := fun b o eb hb => by
        obtain ⟨n1, k1⟩ := wo_some eb
        rw [wo_not fun z => z.elim n1 (ne_of_none k1 nD)]
        exact aN.keep k1 n1 hb
      obtain ⟨d, hd, a3, g3, r3⟩ := it.yld i H2 x H3 _ aN sub e2.mok g2 hlt y
      have ed : xs.drop i = d :: xs.drop (i + 1) := by
        rw [List.drop_eq_getElem_cons hlt]
        rw [List.getElem?_eq_getElem hlt] at hd
        rw [Option.some.inj hd]
      rw [ed] at f2
      have e3 := (e2.go a3 g3).wipe vs
      have main := hg _ am H3 (wipe σ vs) (wipeD ρ vs) x d _ (fun σ2 H2' => tt σ2 H2' fun b H4 => if b = true then te σ2 H4 fun y H5 => ∃ acc, H5 D = some (.lst acc) ∧ acc.length < sizeLine ∧ ∃ us acc', lcGo γ υ τe vs ρ QD (xs.drop (i + 1)) acc' ∧ (upd H5 D (.lst (acc ++ [y]))) D = some (.lst us) ∧ R3s (wo (upd H5 D (.lst (acc ++ [y]))) (plus N D)) us acc' ∧ Go C H1 (upd H5 D (.lst (acc ++ [y]))) ∧ Glob C (upd H5 D (.lst (acc ++ [y])))
          else ∃ us acc', lcGo γ υ τe vs ρ QD (xs.drop (i + 1)) acc' ∧ H4 D = some (.lst us) ∧ R3s (wo H4 (plus N D)) us acc' ∧ Go C H1 H4 ∧ Glob C H4) e3 r3 f2 fun σ2 ρ2 s2 q2 => ?_
      · exact mo x _ H3 _ _ (fun σ2 H2' ⟨z1, z2⟩ => ⟨wipe_same z2 hk, z1⟩) (kp x _ H3 _ main)
      · refine ht _ am H3 σ2 ρ2 _ _ s2 q2 fun b H4 q4 a4 g4 => ?_
        have wsub : ∀ b, C.W b → plus N D b := fun b z => .inl (e.mok.sub b z)
        have D4 : H4 D = some (.lst us) := (a3.trans a4).keep hD nW (by intro _ z; cases z)
        have R4 := r3s_sub (sub_go wsub (a3.trans a4)) _ _ rD
        cases b with
        | false =>
          rw [if_neg Bool.false_ne_true]
          exact ⟨us, acc, q4, D4, R4, (a2.trans a3).trans a4, g4⟩
        | true =>
          rw [if_pos rfl]
          refine he _ am H4 σ2 ρ2 _ _ (s2.go a4 g4) q4 fun y5 H5 d5 ⟨z5, q5⟩ a5 g5 r5 => ?_
          have D5 : H5 D = some (.lst us) := a5.keep D4 nW (by intro _ z; cases z)
          have R5 := r3s_sub (sub_go wsub a5) _ _ R4
          have sub5 : Sub (wo H5 (plus N D)) (wo (upd H5 D (.lst (us ++ [y5]))) (plus N D)) := fun b o eb hb => by
            obtain ⟨n1, k1⟩ := wo_some eb
            rw [wo_not n1, upd_ne fun z => n1 (.inr z)]
            exact k1
          refine ⟨us, D5, ?_, us ++ [y5], acc ++ [d5], q5, upd_same, r3s_sub sub5 _ _ (r3s_app R5 (.cons r5 .nil)), upd_go nD (((a2.trans a3).trans a4).trans a5), glob_upd g5 D5 nW⟩
          rw [r3s_len R5]
          have := sizeLine_eq
          omega
    · have ei : i = xs.length := by omega
      subst ei
      rw [List.drop_length] at f2
      exact .inl ⟨it.stop H2 aN, hQ D H2 us acc f2 (a.free (fun z => nW z) nD) (a.trans a2) g2 hD rD⟩
structure PDTs (X : Cx) (C : C3) (ifs : List Expr) (t : TT) (υ : TTd) : Prop where
  pt : PTs X ifs t
  snd : SndT C t υ
def dYes : TTd := fun _ Q => Q true
section
variable {X : Cx} {C : C3} {pos : Pos}
theorem qts_nil : PDTs X C [] tYes dYes := ⟨pts_nil, fun N am H σ ρ QD Q e h hQ => hQ true H h GoN.refl e.glob⟩
theorem qts_one {c : Expr} {t : TT} {υ : TTd} (h : PDT X C c t υ) : PDTs X C [c] t υ := ⟨pts_one h.pt, h.snd⟩
section
variable {elt tg iter : Expr} {ifs : List Expr} {scope : Scope} {own : List (Str × Nat)} {wi : TI} {ι : TId} {g : TG} {γ : TGd} {ks : List Nat} {tt : TT} {υ : TTd} {te : TE} {τe : TD}
theorem ql_lc (hc : X.calm = true) (hN : X.N.Nodup) (hi : PDI X C tg iter wi ι) (ok : BlkOk X.N X.env.scope scope own)
    (hg : ∀ (s : Shared) (H : Hp) (Cc : Addr) (cl : List (Str × Addr)) (fp : List Addr), PDG (X.blk s H scope (compEnvC scope cl Cc X.env) fp) C tg g γ ks) (ht : ∀ (s : Shared) (H : Hp) (Cc : Addr) (cl : List (Str × Addr)) (fp : List Addr), PDTs (X.blk s H scope (compEnvC scope cl Cc X.env) fp) C ifs tt υ)
    (he : ∀ (s : Shared) (H : Hp) (Cc : Addr) (cl : List (Str × Addr)) (fp : List Addr), PDE (X.blk s H scope (compEnvC scope cl Cc X.env) fp) C elt te τe) (hk : ∀ k ∈ ks, k ∈ own.map (·.2)) (w0 : Shared) (hs : ∀ x, foldedSetIterable iter X.env x = pure x := by intro _; rfl) :
    PDL X C (.ListComp elt [⟨tg, iter, ifs, 0⟩] scope pos) (tLc wi g tt te (own.map (·.2))) (dLc ι γ υ τe (own.map (·.2))) :=
  have G := hg w0 (fun _ => none) 0 [] []
  ⟨pe_lc hc hN hi.pi ok (fun s H Cc cl fp => (hg s H Cc cl fp).pg) (fun s H Cc cl fp => (ht s H Cc cl fp).pt) (fun s H Cc cl fp => (he s H Cc cl fp).pe) hs, snd_lc hi.snd G.snd G.kp G.mo hk (ht w0 (fun _ => none) 0 [] []).snd (he w0 (fun _ => none) 0 [] []).snd⟩
theorem qs_setLc {i : Nat} {y : Str} {py spos : Pos} (hc : X.calm = true) (hN : X.N.Nodup) (hy : X.N[i]? = some y) (hyl : X.env.scope.names.lookup y = some .local)
    (hsw : swapsWith (.ListComp elt [⟨tg, iter, ifs, 0⟩] scope pos) (some (.Name y py)) spos.line X.env = pure true) (hi : PDI X C tg iter wi ι) (ok : BlkOk X.N X.env.scope scope own)
    (hg : ∀ (s : Shared) (H : Hp) (Cc : Addr) (cl : List (Str × Addr)) (fp : List Addr), PDG (X.blk s H scope (compEnvC scope cl Cc X.env) fp) C tg g γ ks) (ht : ∀ (s : Shared) (H : Hp) (Cc : Addr) (cl : List (Str × Addr)) (fp : List Addr), PDTs (X.blk s H scope (compEnvC scope cl Cc X.env) fp) C ifs tt υ)
    (he : ∀ (s : Shared) (H : Hp) (Cc : Addr) (cl : List (Str × Addr)) (fp : List Addr), PDE (X.blk s H scope (compEnvC scope cl Cc X.env) fp) C elt te τe) (hk : ∀ k ∈ ks, k ∈ own.map (·.2)) (w0 : Shared) (hs : ∀ x, foldedSetIterable iter X.env x = pure x := by intro _; rfl) :
    PDS X C (.Assign [.Name y py] (.ListComp elt [⟨tg, iter, ifs, 0⟩] scope pos) spos) (tAsg (tLc wi g tt te (own.map (·.2))) (gName i)) (dSetL i (dLc ι γ υ τe (own.map (·.2)))) :=
  have G := hg w0 (fun _ => none) 0 [] []
  ⟨ps_setLc hc hN hy hyl hsw hi.pi ok (fun s H Cc cl fp => (hg s H Cc cl fp).pg) (fun s H Cc cl fp => (ht s H Cc cl fp).pt) (fun s H Cc cl fp => (he s H Cc cl fp).pe) hs, snd_setL (snd_lc hi.snd G.snd G.kp G.mo hk (ht w0 (fun _ => none) 0 [] []).snd (he w0 (fun _ => none) 0 [] []).snd)⟩
end

/-! ### calls of built-ins -/
theorem q_cb {x : Str} {id : String} {r : List V → Hp → VK → Prop} {ψ : List PyData → (PyData → Prop) → Prop} {e : Expr} {es : List Expr} {t : TA} {τ : TAd} {p : Pos} (hc : CallR X (.builtin id) r) (hl : LiftA C r ψ) (hg : Gl X x) (hm : X.mg x = none) (hv : bootBuiltins x = some (.builtin id)) (ha : PDA X C (e :: es) t τ) (hn : x ≠ "__name__" := by decide) (hdb : (x == ("__debug__" : Str)) = false := by decide)
    (he : starEach (e :: es) X.env = (false, eval e X.env) :: starEach es X.env := by rfl) (hpl : (backTo pos (starEach es X.env)).any (·.1) = false := by rfl) : PDE X C (.Call (.Name x p) (e :: es) [] pos) (tCB r t) (dCB ψ τ) := ⟨pe_callB hc hg hm hv ha.pa hn hdb he hpl, snd_cb hl ha.snd⟩
theorem q_cty {x : Str} {id : String} {r : List V → Hp → VK → Prop} {ψ : List PyData → (PyData → Prop) → Prop} {e : Expr} {es : List Expr} {t : TA} {τ : TAd} {p : Pos} (hc : CallR X (.type id) r) (hl : LiftA C r ψ) (hg : Gl X x) (hm : X.mg x = none) (hv : bootBuiltins x = some (.type id)) (ha : PDA X C (e :: es) t τ) (hn : x ≠ "__name__" := by decide) (hdb : (x == ("__debug__" : Str)) = false := by decide)
    (he : starEach (e :: es) X.env = (false, eval e X.env) :: starEach es X.env := by rfl) (hpl : (backTo pos (starEach es X.env)).any (·.1) = false := by rfl) : PDE X C (.Call (.Name x p) (e :: es) [] pos) (tCB r t) (dCB ψ τ) := ⟨pe_callTy hc hg hm hv ha.pa hn hdb he hpl, snd_cb hl ha.snd⟩
def dLen : List PyData → (PyData → Prop) → Prop := fun ds Q => ∃ xs, (ds = [.list xs] ∨ ds = [.tuple xs]) ∧ Q (.int (xs.length : Nat))
theorem l_len {K : PySem.W.Frag} : LiftA C (fun xs H Q => ∃ p ys, xs = [.ref p] ∧ (SqL K H p ys ∨ SqT K H p ys) ∧ Q (.int ys.length) H) dLen := fun N H xs ds QD Q m g r q hQ => by
  obtain ⟨zs, hd, q⟩ := q
  rcases hd with rfl | rfl
  · cases r with
    | cons r1 r2 =>
      cases r2
      cases r1 with
      | @lst a us _ ha hu => exact ⟨a, us, rfl, .inl (.of (wo_some ha).2), by rw [r3s_len hu]; exact hQ _ H _ q GoN.refl g (.int _)⟩
  · cases r with
    | cons r1 r2 =>
      cases r2
      cases r1 with
      | @tup a us _ ha hu => exact ⟨a, us, rfl, .inr (.of (wo_some ha).2), by rw [r3s_len hu]; exact hQ _ H _ q GoN.refl g (.int _)⟩
def dSum : List PyData → (PyData → Prop) → Prop := fun ds Q => ∃ ns : List Int, ds = [.list (ns.map .int)] ∧ Q (.int ns.sum)
theorem l_sum {K : PySem.W.Frag} : LiftA C (rSum K) dSum := fun N H xs ds QD Q m g r q hQ => by
  obtain ⟨ns, rfl, q⟩ := q
  cases r with
  | cons r1 r2 =>
    cases r2
    cases r1 with
    | @lst a us _ ha hu =>
      have e := r3s_ints hu
      subst e
      exact ⟨a, ns, rfl, .of (wo_some ha).2, hQ _ H _ q GoN.refl g (.int _)⟩
def dAll : List PyData → (PyData → Prop) → Prop := fun ds Q => ∃ bs : List Bool, ds = [.list (bs.map .bool)] ∧ Q (.bool (bs.all id))
theorem l_all {K : PySem.W.Frag} : LiftA C (rAll K) dAll := fun N H xs ds QD Q m g r q hQ => by
  obtain ⟨ns, rfl, q⟩ := q
  cases r with
  | cons r1 r2 =>
    cases r2
    cases r1 with
    | @lst a us _ ha hu =>
      have e := r3s_bools hu
      subst e
      exact ⟨a, ns, rfl, .of (wo_some ha).2, hQ _ H _ q GoN.refl g (.bl _)⟩
/-- tuple(a list or a tuple) -/
def dTupOf : List PyData → (PyData → Prop) → Prop := fun ds Q => ∃ xs, (ds = [.list xs] ∨ ds = [.tuple xs]) ∧ Q (.tuple xs)
theorem l_tuple {K : PySem.W.Frag} : LiftA C (fun xs H Q => ∃ p ys, xs = [.ref p] ∧ ((SqL K H p ys ∧ ∀ l, H l = none → Q (.ref l) (upd H l (.tup ys))) ∨ (SqT K H p ys ∧ Q (.ref p) H))) dTupOf := fun N H xs ds QD Q m g r q hQ => by
  obtain ⟨zs, hd, q⟩ := q
  rcases hd with rfl | rfl
  · cases r with
    | cons r1 r2 =>
      cases r2
      cases r1 with
      | @lst a us _ ha hu =>
        refine ⟨a, us, rfl, .inl ⟨.of (wo_some ha).2, fun p hp => ?_⟩⟩
        obtain ⟨a1, g1, w1, s1⟩ := lay m g (o := .tup us) hp
        exact hQ _ _ _ q a1 g1 (.tup w1 (r3s_sub s1 _ _ hu))
  · cases r with
    | cons r1 r2 =>
      cases r2
      cases r1 with
      | @tup a us _ ha hu => exact ⟨a, us, rfl, .inr ⟨.of (wo_some ha).2, hQ _ H _ q GoN.refl g (.tup ha hu)⟩⟩
def dListOf : List PyData → (PyData → Prop) → Prop := fun ds Q => ∃ xs, (ds = [.list xs] ∨ ds = [.tuple xs]) ∧ Q (.list xs)
theorem l_list {K : PySem.W.Frag} : LiftA C (fun xs H Q => ∃ p ys, xs = [.ref p] ∧ (SqL K H p ys ∨ SqT K H p ys) ∧ ∀ l, H l = none → Q (.ref l) (upd H l (.lst ys))) dListOf := fun N H xs ds QD Q m g r q hQ => by
  obtain ⟨zs, hd, q⟩ := q
  rcases hd with rfl | rfl
  · cases r with
    | cons r1 r2 =>
      cases r2
      cases r1 with
      | @lst a us _ ha hu =>
        refine ⟨a, us, rfl, .inl (.of (wo_some ha).2), fun p hp => ?_⟩
        obtain ⟨a1, g1, w1, s1⟩ := lay m g (o := .lst us) hp
        exact hQ _ _ _ q a1 g1 (.lst w1 (r3s_sub s1 _ _ hu))
  · cases r with
    | cons r1 r2 =>
      cases r2
      cases r1 with
      | @tup a us _ ha hu =>
        refine ⟨a, us, rfl, .inr (.of (wo_some ha).2), fun p hp => ?_⟩
        obtain ⟨a1, g1, w1, s1⟩ := lay m g (o := .lst us) hp
        exact hQ _ _ _ q a1 g1 (.lst w1 (r3s_sub s1 _ _ hu))
/-- isinstance(e, T) -/
def isTy (T : String) : PyData → Bool
  | .int _ => T == "int"
  | .bool _ => T == "bool" || T == "int"
  | .tuple _ => T == "tuple"
  | .list _ => T == "list"
  | _ => false
def dIsi (T : String) (τ : TD) : TD := fun ρ Q => τ ρ fun d => (∀ s, d ≠ .str s) ∧ Q (.bool (isTy T d))
theorem q_isi {T : String} {n : Str} {e : Expr} {te : TE} {τ : TD} {p p2 : Pos} (hT : T = "int" ∨ T = "bool" ∨ T = "tuple") (hg : Gl X "isinstance") (hm : X.mg "isinstance" = none) (hv : bootBuiltins "isinstance" = some (.builtin "isinstance")) (hg2 : Gl X n) (hm2 : X.mg n = none) (hv2 : bootBuiltins n = some (.type T)) (he : PDE X C e te τ) (hn : n ≠ "__name__" := by decide) (hdb : (n == ("__debug__" : Str)) = false := by decide)
    (h1 : starEach [e, .Name n p2] X.env = (false, eval e X.env) :: starEach [.Name n p2] X.env := by rfl) (h2 : starEach [.Name n p2] X.env = (false, eval (.Name n p2) X.env) :: starEach [] X.env := by rfl) (hpl : (backTo pos (starEach [.Name n p2] X.env)).any (·.1) = false := by rfl) :
    PDE X C (.Call (.Name "isinstance" p) [e, .Name n p2] [] pos) (tCB (rIsi X.K) (tCons te (tCons (tC (.ty T)) tNil))) (dIsi T τ) :=
  ⟨pe_callB call_isi hg hm hv (pa_cons he.pe (pa_cons (pe_bltn hg2 hm2 hv2 rfl hn hdb) pa_nil h2) h1) (by decide) (by decide) h1 hpl, fun N am H σ ρ QD Q en q hQ => he.snd N am H σ ρ _ _ en q fun v H1 d ⟨ns, q1⟩ a g r => by
    have fin : ∀ (t : String) (b : Bool), TyX X.K H1 v (.type t) → kitB t T = some b → isTy T d = b → rIsi X.K [v, .ty T] H1 Q := fun t b h1 h2 h3 => ⟨v, .ty T, .type t, .type T, b, rfl, .ty T, h1, kit_ty h2, by rw [← h3]; exact hQ _ H1 _ q1 a g (.bl _)⟩
    show rIsi X.K [v, .ty T] H1 Q
    cases r with
    | non => rcases hT with rfl | rfl | rfl <;> exact fin "NoneType" false (.base .non) (by decide +kernel) rfl
    | bl b =>
      rcases hT with rfl | rfl | rfl
      · exact fin "bool" true (.base (.bl b)) (by decide +kernel) rfl
      · exact fin "bool" true (.base (.bl b)) (by decide +kernel) rfl
      · exact fin "bool" false (.base (.bl b)) (by decide +kernel) rfl
    | int i =>
      rcases hT with rfl | rfl | rfl
      · exact fin "int" true (.base (.int i)) (by decide +kernel) rfl
      · exact fin "int" false (.base (.int i)) (by decide +kernel) rfl
      · exact fin "int" false (.base (.int i)) (by decide +kernel) rfl
    | str s => exact absurd rfl (ns s)
    | lst ha hu => rcases hT with rfl | rfl | rfl <;> exact fin "list" false (.base (.lst (wo_some ha).2)) (by decide +kernel) rfl
    | tup ha hu =>
      rcases hT with rfl | rfl | rfl
      · exact fin "tuple" false (.base (.tup (wo_some ha).2)) (by decide +kernel) rfl
      · exact fin "tuple" false (.base (.tup (wo_some ha).2)) (by decide +kernel) rfl
      · exact fin "tuple" true (.base (.tup (wo_some ha).2)) (by decide +kernel) rfl⟩
end
end L3
namespace L3
open PySem L2
open PySem.Spec
/-! ### promises, said of data -/
abbrev Phi := List PyData → (PyData → Prop) → Prop
def sp3 (C : C3) (φ : Phi) : Sp := fun vs H Q _ => ∃ (N : Msk) (ds : List PyData) (QD : PyData → Prop), Mok C N H ∧ Glob C H ∧ R3s (wo H N) vs ds ∧ φ ds QD ∧ ∀ v H' d, QD d → Go C H H' → Glob C H' → R3 (wo H' N) v d → Q v H'
/-- of a def that gets the deck first -/
def spD (T : List (Addr × Str)) (φ : Phi) : Sp := fun vs H Q _ => ∃ (p : Addr × Addr) (us : List V) (N : Msk) (ds : List PyData) (QD : PyData → Prop), vs = .ref p.1 :: us ∧ Mok ⟨T, some p⟩ N H ∧ Glob ⟨T, some p⟩ H ∧ R3s (wo H N) us ds ∧ φ ds QD ∧
  ∀ v H' d, QD d → Go ⟨T, some p⟩ H H' → Glob ⟨T, some p⟩ H' → R3 (wo H' N) v d → Q v H'
/-- where a def stands, and what it promises -/
def Has (P : Program) (w : World) (K : PySem.W.Frag) (mg : Str → Option Value) (base : Heap) (x : Str) (k : Nat) (ps : List Str) (sp : Sp) : Prop :=
  ∃ (f : Addr) (fd : FuncData), FnOk P w K mg base CX0 k f fd ps sp ∧ mg x = some (.ref f) ∧ PySem.W.keepIn K (.ref f) = true ∧ Binds K fd ps []
abbrev HasX (X : Cx) := Has X.prog X.w X.K X.mg X.base
section
variable {X : Cx} {C : C3} {pos p : Pos} {x : Str} {k : Nat} {ps : List Str} {φ : Phi} {e : Expr} {es : List Expr} {t : TA} {τ : TAd}
theorem lift_sp3 : LiftA C (fun vs H Q => sp3 C.off φ (vs ++ []) H Q E0) φ := fun N H xs ds QD Q m g r q hQ =>
  ⟨N, ds, QD, m.off, g.off, by rw [List.append_nil]; exact r, q, fun v H' d q1 a g1 r1 => by
    have a' : Go C H H' := a.mono fun b z => (off_W z).elim
    exact hQ v H' d q1 a' (g.back a g1) r1⟩
theorem q_call (h : HasX X x k ps (sp3 C.off φ)) (hr : Room k X.A) (ha : PDA X C (e :: es) t τ) (hg : Gl X x := by rfl) (hdb : (x == ("__debug__" : Str)) = false := by decide) (he : starEach (e :: es) X.env = (false, eval e X.env) :: starEach es X.env := by rfl) (hpl : (backTo pos (starEach es X.env)).any (·.1) = false := by rfl) :
    PDE X C (.Call (.Name x p) (e :: es) [] pos) (tCall (sp3 C.off φ) [] E0 t) (dCB φ τ) := by
  obtain ⟨f, fd, F, hm, hk, hb⟩ := h
  exact ⟨pe_call F hr hg hm hk hb .nil pass0 ha.pa hdb he hpl, snd_cb (r := fun vs H Q => sp3 C.off φ (vs ++ []) H Q E0) lift_sp3 ha.snd⟩
/-- f(deck, ..) -/
def dCallD (i : Nat) (p : Addr × Addr) (φ : Phi) (τ : TAd) : TD := fun ρ Q => ρ[i]? = some (.val (.ref p.1)) ∧ τ ρ fun ds => φ ds Q
theorem q_callD {T : List (Addr × Str)} {dk : Addr × Addr} {i : Nat} {y : Str} {py : Pos} (h : HasX X x k ps (spD T φ)) (hr : Room k X.A) (ha : PDA X ⟨T, some dk⟩ es t τ) (hN : X.N[i]? = some y := by rfl) (hv : Vis X.env.scope y := by first | exact Or.inl rfl | exact Or.inr (Or.inl rfl) | exact Or.inr (Or.inr rfl)) (hg : Gl X x := by rfl) (hdb : (x == ("__debug__" : Str)) = false := by decide)
    (h1 : (y == ("__debug__" : Str)) = false := by decide) (h2 : (y == ("__classdict__" : Str)) = false := by decide) (h3 : starEach (.Name y py :: es) X.env = (false, eval (.Name y py) X.env) :: starEach es X.env := by rfl) (hpl : (backTo pos (starEach es X.env)).any (·.1) = false := by rfl) :
    PDE X ⟨T, some dk⟩ (.Call (.Name x p) (.Name y py :: es) [] pos) (tCall (spD T φ) [] E0 (tCons (tVar i) t)) (dCallD i dk φ τ) := by
  obtain ⟨f, fd, F, hm, hk, hb⟩ := h
  refine ⟨pe_call F hr hg hm hk hb .nil pass0 (pa_cons (pe_var hN hv h1 h2) ha.pa h3) hdb h3 hpl, fun N am H σ ρ QD Q en q hQ => ?_⟩
  obtain ⟨q1, q2⟩ := q
  refine ⟨_, en.sl i _ q1, ha.snd N am H σ ρ _ _ en q2 fun vs H1 ds q3 a g r => ?_⟩
  exact ⟨dk, vs, N, ds, QD, by rw [List.append_nil], (en.go a g).mok, g, r, q3, fun v H' d q4 a4 g4 r4 => hQ v H' d q4 (a.trans a4) g4 r4⟩
/-- f(k = e, ..): all by keywords -/
def kwG : List Value → List Value → List Value
  | [], ws => ws
  | _ :: _, _ => []
def kwV : List V → List V → List V
  | [], ws => ws
  | _ :: _, _ => []
theorem kw_rel {vs : List V} {us : List Value} {zs : List V} {ws : List Value} (h : Vals vs us) (h' : Vals zs ws) : Vals (kwV vs zs) (kwG us ws) := by
  cases h with
  | nil => exact h'
  | cons _ _ => exact .nil
theorem kw_binds {K : PySem.W.Frag} {fd : FuncData} {ps : List Str} (hp : ps ≠ []) (h : ∀ (s : Shared) (ws : List Value), ws.length = ps.length → BindsTo s fd ⟨[], ps.zip ws⟩ (ps.zip ws)) : KBinds K fd ps ps kwG kwV :=
  ⟨fun s us ws _ hl => by
    cases us with
    | nil => exact h s ws hl
    | cons u us => exact absurd (List.eq_nil_of_length_eq_zero hl.symm) hp, fun h h' => kw_rel h h'⟩
def HasK (P : Program) (w : World) (K : PySem.W.Frag) (mg : Str → Option Value) (base : Heap) (x : Str) (k : Nat) (ps : List Str) (sp : Sp) : Prop :=
  ∃ (f : Addr) (fd : FuncData), FnOk P w K mg base CX0 k f fd ps sp ∧ mg x = some (.ref f) ∧ PySem.W.keepIn K (.ref f) = true ∧ KBinds K fd ps ps kwG kwV
theorem pe_callK0 {CX : CXT} {f : Addr} {fd : FuncData} {ks : List Str} {sp : Sp} {E : XK} {kws : List Keyword} {tk : TA} {g : List Value → List Value → List Value} {gV : List V → List V → List V} (F : FnOk X.prog X.w X.K X.mg X.base CX k f fd ps sp) (hr : Room k X.A) (hg : Gl X x) (hm : X.mg x = some (.ref f)) (hk : PySem.W.keepIn X.K (.ref f) = true) (hb : KBinds X.K fd ps ks g gV) (hx : Passes CX X E)
    (hkw : PK X kws tk) (hall : (backToKw pos (keywordEach kws X.env)).all (·.1.isSome) = true := by rfl) (hks : (backToKw pos (keywordEach kws X.env)).filterMap (·.1) = ks := by rfl)
    (hdb : (x == ("__debug__" : Str)) = false := by decide) (hpl : (backToKw pos (keywordEach kws X.env)).any (·.1.isNone) = false := by rfl) :
    PE X (.Call (.Name x p) [] kws pos) (tCallK sp gV E tNil tk) := by
  refine ⟨fun pins s σ H Q I h => wpAny_Call_Name_kw (ld_glob I hg hm ?_ hdb)⟩
  have h' : tk σ H (fun zs H2 => sp (gV [] zs) H2 Q E) := h
  refine PySem.W.callWith_KW0 (h₀ := X.base) I.ok.mod.kin hk hall ?_ hpl
  refine thn (hkw.run pos pins s σ H _ I h') fun ws s2 ⟨zs, H2, I2, rz, q2⟩ => ⟨I2.kIn, ?_⟩
  rw [hks]
  exact run_fnk (us := []) F hr hb hx I2 .nil rz q2
structure PDK (X : Cx) (C : C3) (kws : List Keyword) (t : TA) (τ : TAd) : Prop where
  pk : PK X kws t
  snd : SndA C t τ
theorem qk_nil : PDK X C [] tNil dNil := ⟨pk_nil, snd_nil⟩
theorem qk_cons {e : Expr} {kws : List Keyword} {te : TE} {t : TA} {τe : TD} {τ : TAd} {nm : Option Str} {kpos : Pos} (ha : PDE X C e te τe) (hr : PDK X C kws t τ) : PDK X C (⟨nm, e, kpos⟩ :: kws) (tCons te t) (dCons τe τ) := ⟨pk_cons ha.pe hr.pk, snd_cons ha.snd hr.snd⟩
theorem q_callK {kws : List Keyword} (h : HasK X.prog X.w X.K X.mg X.base x k ps (sp3 C.off φ)) (hr : Room k X.A) (hkw : PDK X C kws t τ) (hg : Gl X x := by rfl) (hall : (backToKw pos (keywordEach kws X.env)).all (·.1.isSome) = true := by rfl) (hks : (backToKw pos (keywordEach kws X.env)).filterMap (·.1) = ps := by rfl)
    (hdb : (x == ("__debug__" : Str)) = false := by decide) (hpl : (backToKw pos (keywordEach kws X.env)).any (·.1.isNone) = false := by rfl) :
    PDE X C (.Call (.Name x p) [] kws pos) (tCallK (sp3 C.off φ) kwV E0 tNil t) (dCB φ τ) := by
  obtain ⟨f, fd, F, hm, hk, hb⟩ := h
  refine ⟨pe_callK0 F hr hg hm hk hb pass0 hkw.pk hall hks hdb hpl, fun N am H σ ρ QD Q en q hQ => ?_⟩
  refine hkw.snd N am H σ ρ _ _ en q fun zs H2 ds q2 a g r => ?_
  refine ⟨N, ds, QD, (en.go a g).mok.off, g.off, r, q2, fun v H' d q1 a1 g1 r1 => ?_⟩
  have a' : Go C H2 H' := a1.mono fun b z => (off_W z).elim
  exact hQ v H' d q1 (a.trans a') (g.back a1 g1) r1

/-! ### a def by its body -/
def env0 (N : List Str) (ds : List PyData) : Env3 := ds.map Cell.dat ++ List.replicate (N.length - ds.length) .un
theorem start_at {N : List Str} {vs : List V} {ds : List PyData} {G : Hp} (r : R3s G vs ds) (i : Nat) (c : Cell) (h : (env0 N ds)[i]? = some c) : c = .un ∨ ∃ d v, c = .dat d ∧ (L2.start N vs)[i]? = some (some v) ∧ R3 G v d := by
  have hl := r3s_len r
  unfold env0 at h
  by_cases hi : i < ds.length
  · rw [List.getElem?_append_left (by rw [List.length_map]; exact hi), List.getElem?_map, List.getElem?_eq_getElem hi] at h
    have e : Cell.dat ds[i] = c := Option.some.inj h
    obtain ⟨v, h1, h2⟩ := r3s_get r (List.getElem?_eq_getElem hi)
    refine .inr ⟨_, v, e.symm, ?_, h2⟩
    unfold L2.start
    rw [List.getElem?_append_left (by rw [List.length_map, hl]; exact hi), List.getElem?_map, h1]
    rfl
  · rw [List.getElem?_append_right (by rw [List.length_map]; omega), List.getElem?_replicate] at h
    split at h
    · exact .inl (Option.some.inj h).symm
    · cases h
theorem start_len {N : List Str} {vs : List V} {ds : List PyData} (hl : vs.length = ds.length) : (env0 N ds).length = (L2.start N vs).length := by
  unfold env0 L2.start
  rw [List.length_append, List.length_append, List.length_map, List.length_map, List.length_replicate, List.length_replicate, hl]
theorem fn3_run {C : C3} {names : List Str} {t : TS} {τ : TSd} {φ : Phi} (h : SndS C t τ) (hφ : ∀ ds QD, φ ds QD → τ { nx := fun _ => QD .none, rt := QD } (env0 names ds)) {vs : List V} {H : Hp} {Q : VK} {E : XK} (hsp : sp3 C φ vs H Q E) :
    t { nx := fun _ H' => Q .non H', rt := Q } (L2.start names vs) H := by
  obtain ⟨N, ds, QD, m, g, r, q, hQ⟩ := hsp
  have hl := r3s_len r
  have env : EnvA C (mkN N fun _ => none) (fun _ => none) H (L2.start names vs) (env0 names ds) := by
    have e : ∀ a, mkN N (fun _ => none) a → N a := fun a z => z.elim id fun ⟨_, z⟩ => nomatch z
    refine ⟨⟨fun a w => .inl (m.sub a w), fun a n => m.dom a (e a n)⟩, g, start_len hl, fun i c hc => ?_, (fun i a z => nomatch z), (fun i j a z => nomatch z)⟩
    rcases start_at r i c hc with z | ⟨d, v, rfl, h1, h2⟩
    · subst z
      trivial
    · exact ⟨v, h1, r3_sub (sub_less e) _ _ h2⟩
  refine h N [(H, C.W)] H _ _ _ _ m.sub ⟨_, env, (fun i a z => nomatch z), fun p hp => ?_⟩ ⟨fun σ' H' ρ' ⟨am, s⟩ q' => ?_, fun v H' d q' b g' m' r' => hQ v H' d q' (b (H, C.W) (by simp)) g' r', fun _ _ _ _ z => False.elim z, fun _ _ _ _ z => False.elim z⟩ (hφ ds QD q)
  · have e : p = (H, C.W) := by simpa using hp
    subst e
    exact ⟨GoN.refl, fun _ w => w, (fun i a z => nomatch z)⟩
  · exact hQ .non H' .none q' (s.base (H, C.W) (by simp)).1 s.env.glob .non
theorem sp3_len {C : C3} {φ : Phi} {n : Nat} (h : ∀ ds QD, φ ds QD → ds.length = n) (vs : List V) (H : Hp) (Q : VK) (E : XK) (hsp : sp3 C φ vs H Q E) : vs.length = n := by
  obtain ⟨N, ds, QD, m, g, r, q, hQ⟩ := hsp
  rw [r3s_len r, h ds QD q]
section
variable {P : Program} {w : World} {K : PySem.W.Frag} {mg : Str → Option Value} {base : Heap}
/-- THE RULE: a def keeps its promise, said of data -/
theorem fn3 {C : C3} {x qual : Str} {st : Stmt} {f : Addr} {fd : FuncData} {names ps : List Str} {k : Nat} {φ : Phi} (F : Fun K x qual st f fd) (S : FnScope names ps (defScope st)) (len : ∀ ds QD, φ ds QD → ds.length = ps.length)
    (body : ∀ (cdv : Value) (A : Around) (outer : List Env) (s : Shared) (H : Hp) (E : XK), Room k (A.deeper (PyProof.Rows.envOfC qual (defScope st) s.heap.objs.size f cdv)) →
      ∃ t τ, PDSs (cxOf CX0 P w K mg base names qual (defScope st) f cdv A outer s H E).nox C (defBody st) t τ ∧ ∀ ds QD, φ ds QD → τ { nx := fun _ => QD .none, rt := QD } (env0 names ds)) : FnOk P w K mg base CX0 (k + 1) f fd ps (sp3 C φ) := by
  refine F.ok S (sp3_len len) fun cdv A outer s H vs Q E hr hsp => ?_
  obtain ⟨t, τ, h, hφ⟩ := body cdv A outer s H E hr
  exact ⟨t, h.ps, fn3_run h.snd hφ hsp⟩
end
end
end L3
namespace L3
open PySem L2
open PySem.Spec
/-! ### a list of the def's own: read, and written -/
section
variable {X : Cx} {C : C3} {pos : Pos}
/-- xs[e], xs an own list -/
def dIxO (i : Nat) (τ : TD) : TD := fun ρ Q => ∃ ds, ρ[i]? = some (.own ds) ∧ τ ρ fun d => ∃ k c, d = .int k ∧ atI ds k = some c ∧ Q c
theorem q_ixO (i : Nat) {x : Str} {b : Expr} {tb : TE} {τ : TD} {p : Pos} (hb : PDE X C b tb τ) (hN : X.N[i]? = some x := by rfl) (hv : Vis X.env.scope x := by first | exact Or.inl rfl | exact Or.inr (Or.inl rfl) | exact Or.inr (Or.inr rfl)) (hd : (x == ("__debug__" : Str)) = false := by decide)
    (hcd : (x == ("__classdict__" : Str)) = false := by decide) (hs : PlainIx b := by exact fun _ _ => rfl) : PDE X C (.Subscript (.Name x p) b pos) (tOp (rIx X.K) (tVar i) tb) (dIxO i τ) := ⟨pe_ix ix_seq (pe_var hN hv hd hcd) hb.pe hs, fun N am H σ ρ QD Q e q hQ => by
  obtain ⟨ds, e1, q⟩ := q
  obtain ⟨a, vs, h1, h2, h3, h4⟩ := e.sl i _ e1
  refine ⟨_, h2, hb.snd N am H σ ρ _ _ e q fun v H1 d ⟨k, c, ed, hk, q1⟩ ag g r => ?_⟩
  subst ed
  cases r
  have s := sub_go e.mok.sub ag
  obtain ⟨v, z1, z2⟩ := atI_of (r3s_sub s _ _ h4) hk
  exact .inl ⟨a, vs, k, v, rfl, rfl, .of (ag.keep h3 (e.amN _ a h1).2.1 (by intro _ z; cases z)), z1, hQ v H1 c q1 ag g z2⟩⟩
/-- len(xs) -/
def dLenO (i : Nat) : TD := fun ρ Q => ∃ ds, ρ[i]? = some (.own ds) ∧ Q (.int (ds.length : Nat))
theorem q_lenO (i : Nat) {x : Str} {p p2 : Pos} (hm : X.mg "len" = none) (hg : Gl X "len" := by rfl) (hv0 : bootBuiltins "len" = some (.builtin "len") := by exact PySem.boot_len) (hN : X.N[i]? = some x := by rfl) (hv : Vis X.env.scope x := by first | exact Or.inl rfl | exact Or.inr (Or.inl rfl) | exact Or.inr (Or.inr rfl)) (hd : (x == ("__debug__" : Str)) = false := by decide)
    (hcd : (x == ("__classdict__" : Str)) = false := by decide) (he : starEach [.Name x p2] X.env = (false, eval (.Name x p2) X.env) :: starEach [] X.env := by rfl) (hpl : (backTo pos (starEach [] X.env)).any (·.1) = false := by rfl) :
    PDE X C (.Call (.Name "len" p) [.Name x p2] [] pos) (tCB (fun xs H Q => ∃ p ys, xs = [.ref p] ∧ (SqL X.K H p ys ∨ SqT X.K H p ys) ∧ Q (.int ys.length) H) (tCons (tVar i) tNil)) (dLenO i) := ⟨pe_callB call_len_seq hg hm hv0 (pa_cons (pe_var hN hv hd hcd) pa_nil he) (by decide) (by decide) he hpl, fun N am H σ ρ QD Q e q hQ => by
  obtain ⟨ds, e1, q⟩ := q
  obtain ⟨a, vs, h1, h2, h3, h4⟩ := e.sl i _ e1
  exact ⟨_, h2, a, vs, rfl, .inl (.of h3), by rw [r3s_len h4]; exact hQ _ H _ q GoN.refl e.glob (.int _)⟩⟩
/-- xs.append(e) -/
def dApp (i : Nat) (τ : TD) : TSd := fun D ρ => ∃ ds, ρ[i]? = some (.own ds) ∧ ds.length < 100000 ∧ τ ρ fun d => D.nx (ρ.set i (.own (ds ++ [d])))
theorem snd_app {K : PySem.W.Frag} {i : Nat} {te : TE} {τ : TD} (he : Snd C te τ) : SndS C (tDrop (tBM K "list" rAppend (tVar i) (tCons te tNil))) (dApp i τ) := fun M0 B H σ ρ D E w ⟨am, s⟩ l h => by
  obtain ⟨ds, e1, hz, q⟩ := h
  obtain ⟨a, vs, h1, h2, h3, h4⟩ := s.env.sl i _ e1
  refine ⟨_, h2, .inl ⟨rfl, vs, .of h3⟩, he _ am H σ ρ _ _ s.env q fun v H1 d q1 ag g r => ?_⟩
  have s1 := s.go ag g
  have k3 := ag.keep h3 (s.env.amN _ a h1).2.1 (by intro _ z; cases z)
  have k4 := r3s_sub (sub_go s.env.mok.sub ag) _ _ h4
  have hsl := sizeLine_eq
  have hll := r3s_len k4
  refine ⟨a, vs, v, rfl, rfl, k3, by omega, ?_⟩
  exact l.nx _ _ _ ⟨am, s1.write e1 h1 (r3s_app k4 (.cons r .nil))⟩ q1
theorem qs_app (i : Nat) {x : Str} {e : Expr} {te : TE} {τ : TD} {p apos cpos : Pos} (he : PDE X C e te τ) (hN : X.N[i]? = some x := by rfl) (hv : Vis X.env.scope x := by first | exact Or.inl rfl | exact Or.inr (Or.inl rfl) | exact Or.inr (Or.inr rfl)) (hd : (x == ("__debug__" : Str)) = false := by decide)
    (hcd : (x == ("__classdict__" : Str)) = false := by decide) (hbase : attributeBase (.Name x p) "append" X.env (eval (.Name x p) X.env) = eval (.Name x p) X.env := by rfl)
    (hfew : ((backTo cpos (starEach [e] X.env)).all (fun x => !x.1) && (backToKw cpos (keywordEach [] X.env)).all (fun x => x.1.isSome) && decide ([e].length + ([] : List Keyword).length + (if ([] : List Keyword).isEmpty then 0 else 1) < 30)) = true := by rfl)
    (hline : (apos.endLine == cpos.line) = true := by rfl) (h1 : starEach [e] X.env = (false, eval e X.env) :: starEach [] X.env := by rfl) (hpl : (backTo cpos (starEach [] X.env)).any (·.1) = false := by rfl) (hs : swapsWith (.Call (.Attribute (.Name x p) "append" apos) [e] [] cpos) none pos.line X.env = pure false := by rfl) :
    PDS X C (.Expr (.Call (.Attribute (.Name x p) "append" apos) [e] [] cpos) pos) (tDrop (tBM X.K "list" rAppend (tVar i) (tCons te tNil))) (dApp i τ) :=
  ⟨ps_expr (pe_bm PySem.F.plainAttrs_list PySem.F.slot_list_append PySem.F.type_list_append mt_append (pe_var hN hv hd hcd) (pa_cons he.pe pa_nil h1) hbase hfew hline h1 hpl) hs, snd_app he.snd⟩
/-- xs.extend(e), e a list -/
def dExt (i : Nat) (τ : TD) : TSd := fun D ρ => ∃ ds, ρ[i]? = some (.own ds) ∧ τ ρ fun d => ∃ es, d = .list es ∧ ds.length + es.length ≤ 100000 ∧ D.nx (ρ.set i (.own (ds ++ es)))
theorem snd_ext {K : PySem.W.Frag} {i : Nat} {te : TE} {τ : TD} (he : Snd C te τ) : SndS C (tDrop (tBM K "list" rExtend (tVar i) (tCons te tNil))) (dExt i τ) := fun M0 B H σ ρ D E w ⟨am, s⟩ l h => by
  obtain ⟨ds, e1, q⟩ := h
  obtain ⟨a, vs, h1, h2, h3, h4⟩ := s.env.sl i _ e1
  refine ⟨_, h2, .inl ⟨rfl, vs, .of h3⟩, he _ am H σ ρ _ _ s.env q fun v H1 d ⟨es, ed, hz, q1⟩ ag g r => ?_⟩
  subst ed
  have s1 := s.go ag g
  have k3 := ag.keep h3 (s.env.amN _ a h1).2.1 (by intro _ z; cases z)
  have k4 := r3s_sub (sub_go s.env.mok.sub ag) _ _ h4
  have hsl := sizeLine_eq
  have hll := r3s_len k4
  cases r with
  | @lst b us _ hb hu =>
    have hl2 := r3s_len hu
    refine ⟨a, b, vs, us, rfl, rfl, k3, (wo_some hb).2, by omega, ?_⟩
    exact l.nx _ _ _ ⟨am, s1.write e1 h1 (r3s_app k4 hu)⟩ q1
theorem qs_ext (i : Nat) {x : Str} {e : Expr} {te : TE} {τ : TD} {p apos cpos : Pos} (he : PDE X C e te τ) (hN : X.N[i]? = some x := by rfl) (hv : Vis X.env.scope x := by first | exact Or.inl rfl | exact Or.inr (Or.inl rfl) | exact Or.inr (Or.inr rfl)) (hd : (x == ("__debug__" : Str)) = false := by decide)
    (hcd : (x == ("__classdict__" : Str)) = false := by decide) (hbase : attributeBase (.Name x p) "extend" X.env (eval (.Name x p) X.env) = eval (.Name x p) X.env := by rfl)
    (hfew : ((backTo cpos (starEach [e] X.env)).all (fun x => !x.1) && (backToKw cpos (keywordEach [] X.env)).all (fun x => x.1.isSome) && decide ([e].length + ([] : List Keyword).length + (if ([] : List Keyword).isEmpty then 0 else 1) < 30)) = true := by rfl)
    (hline : (apos.endLine == cpos.line) = true := by rfl) (h1 : starEach [e] X.env = (false, eval e X.env) :: starEach [] X.env := by rfl) (hpl : (backTo cpos (starEach [] X.env)).any (·.1) = false := by rfl) (hs : swapsWith (.Call (.Attribute (.Name x p) "extend" apos) [e] [] cpos) none pos.line X.env = pure false := by rfl) :
    PDS X C (.Expr (.Call (.Attribute (.Name x p) "extend" apos) [e] [] cpos) pos) (tDrop (tBM X.K "list" rExtend (tVar i) (tCons te tNil))) (dExt i τ) :=
  ⟨ps_expr (pe_bm PySem.F.plainAttrs_list PySem.F.slot_list_extend PySem.F.type_list_extend mt_extend (pe_var hN hv hd hcd) (pa_cons he.pe pa_nil h1) hbase hfew hline h1 hpl) hs, snd_ext he.snd⟩
/-- xs[b] = e -/
def dPutO (i : Nat) (τi τ : TD) : TSd := fun D ρ => ∃ ds, ρ[i]? = some (.own ds) ∧ τ ρ fun d => τi ρ fun c => ∃ k j, c = .int k ∧ ixN ds.length k = some j ∧ D.nx (ρ.set i (.own (ds.set j d)))
theorem qs_putO (i : Nat) {x : Str} {b e : Expr} {tb te : TE} {τb τ : TD} {p spos : Pos} (hb : PDE X C b tb τb) (he : PDE X C e te τ) (hN : X.N[i]? = some x := by rfl) (hv : Vis X.env.scope x := by first | exact Or.inl rfl | exact Or.inr (Or.inl rfl) | exact Or.inr (Or.inr rfl)) (hd : (x == ("__debug__" : Str)) = false := by decide)
    (hcd : (x == ("__classdict__" : Str)) = false := by decide)
    (ha : ∀ v, assign (.Subscript (.Name x p) b spos) X.env v = (do
      let ov ← holding [v] (eval (.Name x p) X.env)
      let iv ← holding [v, ov] (eval b X.env)
      standAt spos
      holding [v, ov, iv] (setItem ov iv v)
      release [v, ov, iv] []) := by intro _; rfl) (hs : swapsWithSole [.Subscript (.Name x p) b spos] e pos.line X.env = pure false := by rfl) (hw : swappedStores [.Subscript (.Name x p) b spos] e X.env = pure none := by rfl)
    (h1 : (assignEach [.Subscript (.Name x p) b spos] X.env).map (·.2) = [assign (.Subscript (.Name x p) b spos) X.env] := by rfl) : PDS X C (.Assign [.Subscript (.Name x p) b spos] e pos) (tAsg te (gSub (tVar i) tb rSetL)) (dPutO i τb τ) :=
  ⟨ps_asg he.pe (pg_sub (pe_var hN hv hd hcd) hb.pe set_list ha) hs hw h1, fun M0 B H σ ρ D E w ⟨am, s⟩ l h => by
    obtain ⟨ds, e1, q⟩ := h
    obtain ⟨a, vs, h1, h2, h3, h4⟩ := s.env.sl i _ e1
    refine he.snd _ am H σ ρ _ _ s.env q fun v H1 d q1 a1 g1 r => ⟨_, h2, hb.snd _ am H1 σ ρ _ _ (s.go a1 g1).env q1 fun u H2 c ⟨k, j, ec, hj, q2⟩ a2 g2 r2 => ?_⟩
    subst ec
    cases r2
    have s2 := (s.go a1 g1).go a2 g2
    have k3 := (a1.trans a2).keep h3 (s.env.amN _ a h1).2.1 (by intro _ z; cases z)
    have k4 := r3s_sub (sub_go s.env.mok.sub (a1.trans a2)) _ _ h4
    refine ⟨a, vs, k, j, rfl, rfl, k3, by rw [r3s_len k4]; exact hj, ?_⟩
    exact l.nx _ _ _ ⟨am, s2.write e1 h1 (r3s_set j k4 (r3_sub (sub_go s.env.mok.sub a2) _ _ r))⟩ q2⟩
/-! xs[b] += e -/
def rGetL (K : PySem.W.Frag) : V → V → Hp → VK → Prop := fun o i H Q => ∃ (p : Addr) (xs : List V) (j : Nat) (v : V), o = .ref p ∧ i = .int (j : Nat) ∧ SqL K H p xs ∧ xs[j]? = some v ∧ Q v H
theorem get_list : PGet X (rGetL X.K) := by
  intro pins s σ H o i ov iv Q I ro ri h
  obtain ⟨p, xs, j, v, rfl, rfl, hp, hj, q⟩ := h
  cases ro
  obtain ⟨t, rfl⟩ := ri
  obtain ⟨its, rv, pl, hz⟩ := I.list hp
  obtain ⟨u, hu, ru⟩ := rv.get hj
  have hl := rv.length
  have hlt := (List.getElem?_eq_some_iff.mp hj).1
  have := sizeLine_eq
  exact wpAny_getItem_list pl.isList (by omega) (by omega) (by simpa using hu) ⟨v, H, I, ru, q⟩
def dAugO (i : Nat) (τb τ : TD) : TSd := fun D ρ => ∃ ds, ρ[i]? = some (.own ds) ∧ τb ρ fun c => ∃ (j : Nat) (m : Int), c = .int (j : Nat) ∧ ds[j]? = some (.int m) ∧ τ ρ fun d => ∃ n, d = .int n ∧ D.nx (ρ.set i (.own (ds.set j (.int (m + n)))))
theorem ixN_nat {n j : Nat} (h : j < n) : ixN n (j : Int) = some j := by
  unfold ixN
  rw [if_pos (by omega), if_pos (by omega)]
  simp
theorem qs_augO (i : Nat) {x : Str} {b e : Expr} {tb te : TE} {τb τ : TD} {p spos : Pos} (hb : PDE X C b tb τb) (he : PDE X C e te τ) (hN : X.N[i]? = some x := by rfl) (hv : Vis X.env.scope x := by first | exact Or.inl rfl | exact Or.inr (Or.inl rfl) | exact Or.inr (Or.inr rfl)) (hd : (x == ("__debug__" : Str)) = false := by decide)
    (hcd : (x == ("__classdict__" : Str)) = false := by decide)
    (ha : ∀ ov iv new, augStore b ov iv new = (do holding [new, ov, iv] (setItem ov iv new); release [new, ov, iv] []; pure .next) := by intros; rfl) : PDS X C (.AugAssign (.Subscript (.Name x p) b spos) .Add e pos) (tAugS (tVar i) tb te (rGetL X.K) (ipI fun i j => i + j) rSetL) (dAugO i τb τ) :=
  ⟨ps_augS (pe_var hN hv hd hcd) hb.pe get_list he.pe ip_add set_list ha, fun M0 B H σ ρ D E w ⟨am, s⟩ l h => by
    obtain ⟨ds, e1, q⟩ := h
    obtain ⟨a, vs, h1, h2, h3, h4⟩ := s.env.sl i _ e1
    refine ⟨_, h2, hb.snd _ am H σ ρ _ _ s.env q fun u H1 c ⟨j, m, ec, hj, q1⟩ a1 g1 r1 => ?_⟩
    subst ec
    cases r1
    have nW := (s.env.amN _ a h1).2.1
    have k4 := r3s_sub (sub_go s.env.mok.sub a1) _ _ h4
    obtain ⟨v, hv1, hv2⟩ := r3s_get k4 hj
    cases hv2
    refine ⟨a, vs, j, _, rfl, rfl, .of (a1.keep h3 nW (by intro _ z; cases z)), hv1, he.snd _ am H1 σ ρ _ _ (s.go a1 g1).env q1 fun u2 H2 d ⟨n, ed, q2⟩ a2 g2 r2 => ?_⟩
    subst ed
    cases r2
    have s2 := (s.go a1 g1).go a2 g2
    have k5 := r3s_sub (sub_go s.env.mok.sub a2) _ _ k4
    refine ⟨m, n, rfl, rfl, a, vs, j, j, rfl, rfl, (a1.trans a2).keep h3 nW (by intro _ z; cases z), ixN_nat (List.getElem?_eq_some_iff.mp hv1).1, ?_⟩
    exact l.nx _ _ _ ⟨am, s2.write e1 h1 (r3s_set j k5 (.int _))⟩ q2⟩
/-- made[s][b] += e, made a pair of own lists -/
def dAug2 (i : Nat) (τs τb τ : TD) : TSd := fun D ρ => ∃ ds es, ρ[i]? = some (.own2 ds es) ∧ τs ρ fun c0 => ∃ s : Bool, c0 = .int (if s then 1 else 0) ∧ τb ρ fun c => ∃ (j : Nat) (m : Int), c = .int (j : Nat) ∧ (if s then es else ds)[j]? = some (.int m) ∧ τ ρ fun d => ∃ n, d = .int n ∧
  D.nx (ρ.set i (if s then .own2 ds (es.set j (.int (m + n))) else .own2 (ds.set j (.int (m + n))) es))
theorem qs_aug2 (i : Nat) {x : Str} {a0 b e : Expr} {t0 tb te : TE} {τ0 τb τ : TD} {p spos apos : Pos} (h0 : PDE X C a0 t0 τ0) (hb : PDE X C b tb τb) (he : PDE X C e te τ) (hN : X.N[i]? = some x := by rfl) (hv : Vis X.env.scope x := by first | exact Or.inl rfl | exact Or.inr (Or.inl rfl) | exact Or.inr (Or.inr rfl)) (hd : (x == ("__debug__" : Str)) = false := by decide)
    (hcd : (x == ("__classdict__" : Str)) = false := by decide) (hs0 : PlainIx a0 := by exact fun _ _ => rfl)
    (ha : ∀ ov iv new, augStore b ov iv new = (do holding [new, ov, iv] (setItem ov iv new); release [new, ov, iv] []; pure .next) := by intros; rfl) : PDS X C (.AugAssign (.Subscript (.Subscript (.Name x p) a0 apos) b spos) .Add e pos) (tAugS (tOp (rIx X.K) (tVar i) t0) tb te (rGetL X.K) (ipI fun i j => i + j) rSetL) (dAug2 i τ0 τb τ) :=
  ⟨ps_augS (pe_ix ix_seq (pe_var hN hv hd hcd) h0.pe hs0) hb.pe get_list he.pe ip_add set_list ha, fun M0 B H σ ρ D E w ⟨am, s⟩ l h => by
    obtain ⟨ds, es, e1, q⟩ := h
    obtain ⟨t, a, b, vs, us, h1, h2, h3, h4, h5, h6, h7, h8⟩ := s.env.sl i _ e1
    refine ⟨_, h3, h0.snd _ am H σ ρ _ _ s.env q fun u H0 c0 ⟨sd, ec0, q0⟩ a0 g0 r0 => ?_⟩
    subst ec0
    cases r0
    have s0 := s.go a0 g0
    have t0 := sub_go s.env.mok.sub a0 _ _ h4 (by intro _ z; cases z)
    have hlen : i < ρ.length := (List.getElem?_eq_some_iff.mp e1).1
    cases sd with
    | false =>
      refine .inr (.inl ⟨t, _, 0, .ref a, rfl, rfl, .of (wo_some t0).2, rfl, ?_⟩)
      refine hb.snd _ am H0 σ ρ _ _ s0.env q0 fun u H1 c ⟨j, m, ec, hj, q1⟩ a1 g1 r1 => ?_
      subst ec
      cases r1
      have nW := (s.env.amN _ a h1).2.1
      have k4 := r3s_sub (sub_go s.env.mok.sub (a0.trans a1)) _ _ h7
      obtain ⟨v, hv1, hv2⟩ := r3s_get k4 hj
      cases hv2
      refine ⟨a, vs, j, _, rfl, rfl, .of ((a0.trans a1).keep h5 nW (by intro _ z; cases z)), hv1, he.snd _ am H1 σ ρ _ _ (s0.go a1 g1).env q1 fun u2 H2 d ⟨n, ed, q2⟩ a2 g2 r2 => ?_⟩
      subst ed
      cases r2
      have ag := (a0.trans a1).trans a2
      have s2 := (s0.go a1 g1).go a2 g2
      have k5 := r3s_sub (sub_go s.env.mok.sub a2) _ _ k4
      have k6 := r3s_sub (sub_go s.env.mok.sub ag) _ _ h8
      have k7 := sub_go s.env.mok.sub ag _ _ h4 (by intro _ z; cases z)
      refine ⟨m, n, rfl, rfl, a, vs, j, j, rfl, rfl, ag.keep h5 nW (by intro _ z; cases z), ixN_nat (List.getElem?_eq_some_iff.mp hv1).1, ?_⟩
      have hab : b ≠ a := fun z => absurd (s.env.inj _ _ a h1 (by rw [← z]; exact h2)) (by omega)
      have sub := write_sub s2 (o := .lst (vs.set j (.int (m + n)))) h1
      exact l.nx _ _ _ ⟨am, s2.writeAt (c := .own2 (ds.set j (.int (m + n))) es) (.inl rfl) h1 hlen ⟨t, a, b, _, us, h1, h2, h3, sub _ _ k7 (by intro _ z; cases z), upd_same, by rw [upd_ne hab]; exact ag.keep h6 (s.env.amN _ b h2).2.1 (by intro _ z; cases z), r3s_sub sub _ _ (r3s_set j k5 (.int _)), r3s_sub sub _ _ k6⟩⟩ q2
    | true =>
      refine .inr (.inl ⟨t, _, 1, .ref b, rfl, rfl, .of (wo_some t0).2, rfl, ?_⟩)
      refine hb.snd _ am H0 σ ρ _ _ s0.env q0 fun u H1 c ⟨j, m, ec, hj, q1⟩ a1 g1 r1 => ?_
      subst ec
      cases r1
      have nW := (s.env.amN _ b h2).2.1
      have k4 := r3s_sub (sub_go s.env.mok.sub (a0.trans a1)) _ _ h8
      obtain ⟨v, hv1, hv2⟩ := r3s_get k4 hj
      cases hv2
      refine ⟨b, us, j, _, rfl, rfl, .of ((a0.trans a1).keep h6 nW (by intro _ z; cases z)), hv1, he.snd _ am H1 σ ρ _ _ (s0.go a1 g1).env q1 fun u2 H2 d ⟨n, ed, q2⟩ a2 g2 r2 => ?_⟩
      subst ed
      cases r2
      have ag := (a0.trans a1).trans a2
      have s2 := (s0.go a1 g1).go a2 g2
      have k5 := r3s_sub (sub_go s.env.mok.sub a2) _ _ k4
      have k6 := r3s_sub (sub_go s.env.mok.sub ag) _ _ h7
      have k7 := sub_go s.env.mok.sub ag _ _ h4 (by intro _ z; cases z)
      refine ⟨m, n, rfl, rfl, b, us, j, j, rfl, rfl, ag.keep h6 nW (by intro _ z; cases z), ixN_nat (List.getElem?_eq_some_iff.mp hv1).1, ?_⟩
      have hab : a ≠ b := fun z => absurd (s.env.inj _ _ a h1 (by rw [z]; exact h2)) (by omega)
      have sub := write_sub s2 (o := .lst (us.set j (.int (m + n)))) h2
      exact l.nx _ _ _ ⟨am, s2.writeAt (c := .own2 ds (es.set j (.int (m + n)))) (.inr rfl) h2 hlen ⟨t, a, b, vs, _, h1, h2, h3, sub _ _ k7 (by intro _ z; cases z), by rw [upd_ne hab]; exact ag.keep h5 (s.env.amN _ a h1).2.1 (by intro _ z; cases z), upd_same, r3s_sub sub _ _ k6, r3s_sub sub _ _ (r3s_set j k5 (.int _))⟩⟩ q2⟩
/-! int(n), max(a, b) -/
def dInt1 : Phi := fun ds Q => ∃ i, ds = [.int i] ∧ Q (.int i)
theorem l_int1 : LiftA C (fun xs H Q => (∃ i, xs = [.int i] ∧ Q (.int i) H) ∨ ∃ k, xs = [.bl k] ∧ Q (.int (if k then 1 else 0)) H) dInt1 := fun N H xs ds QD Q m g r q hQ => by
  obtain ⟨i, rfl, q⟩ := q
  cases r with
  | cons r1 r2 =>
    cases r2
    cases r1
    exact .inl ⟨i, rfl, hQ _ H _ q GoN.refl g (.int _)⟩
def dMax2 : Phi := fun ds Q => ∃ i j, ds = [.int i, .int j] ∧ Q (.int (if j > i then j else i))
theorem l_max2 : LiftA C (fun xs H Q => ∃ i j, xs = [.int i, .int j] ∧ Q (.int (if j > i then j else i)) H) dMax2 := fun N H xs ds QD Q m g r q hQ => by
  obtain ⟨i, j, rfl, q⟩ := q
  cases r with
  | cons r1 r2 =>
    cases r1
    cases r2 with
    | cons r1 r2 =>
      cases r1
      cases r2
      exact ⟨i, j, rfl, hQ _ H _ q GoN.refl g (.int _)⟩
end
end L3
namespace L3
open PySem L2
open PySem.Spec
section
variable {X : Cx} {C : C3} {pos : Pos}
def dNeg (τ : TD) : TD := fun ρ Q => τ ρ fun d => ∃ i, d = .int i ∧ Q (.int (-i))
theorem q_neg {a : Expr} {ta : TE} {τ : TD} (h : PDE X C a ta τ) : PDE X C (.UnaryOp .USub a pos) (tUn (rU fun i => .int (-i)) ta) (dNeg τ) := ⟨pe_un un_neg h.pe, fun N am H σ ρ QD Q e q hQ => h.snd N am H σ ρ _ _ e q fun v H1 d ⟨i, ed, q1⟩ a g r => by
  subst ed
  cases r
  exact ⟨i, rfl, hQ _ H1 _ q1 a g (.int _)⟩⟩
theorem q_num {x : Str} {i : Int} (hm : ∃ t, X.mg x = some (.int i t)) (hg : Gl X x := by rfl) (hd : (x == ("__debug__" : Str)) = false := by decide) : PDE X C (.Name x pos) (tC (.int i)) (dC (.int i)) := by
  obtain ⟨t, hm⟩ := hm
  exact ⟨pe_glob hg hm ⟨t, rfl⟩ hd, snd_c fun _ => .int _⟩
/-- a, b, c = e, f, g: plain local names -/
def dPar3 (i j l : Nat) (t : TAd) : TSd := fun D ρ => t ρ fun ds => ∃ d e f, ds = [d, e, f] ∧ i < ρ.length ∧ j < ρ.length ∧ l < ρ.length ∧ D.nx (((ρ.set i (.dat d)).set j (.dat e)).set l (.dat f))
theorem qs_par3 {i j l : Nat} {x y z : Str} {a b c : Expr} {ta : TA} {τ : TAd} {px py pz pt : Pos} {kt k2 pt2} (hc : X.calm = true) (hN : X.N.Nodup) (hi : X.N[i]? = some x) (hj : X.N[j]? = some y) (hl : X.N[l]? = some z) (hij : i ≠ j) (hil : i ≠ l) (hjl : j ≠ l)
    (hx : X.env.scope.names.lookup x = some .local) (hy : X.env.scope.names.lookup y = some .local) (hz : X.env.scope.names.lookup z = some .local) (ha : PDA X C [a, b, c] ta τ)
    (hw : swappedStores [.Tuple [.Name x px, .Name y py, .Name z pz] kt pt] (.Tuple [a, b, c] k2 pt2) X.env = pure (some [x, y, z]))
    (hs : swapsWithSole [.Tuple [.Name x px, .Name y py, .Name z pz] kt pt] (.Tuple [a, b, c] k2 pt2) pos.line X.env = pure false := by rfl) :
    PDS X C (.Assign [.Tuple [.Name x px, .Name y py, .Name z pz] kt pt] (.Tuple [a, b, c] k2 pt2) pos) (tPar3 i j l ta) (dPar3 i j l τ) :=
  ⟨ps_par3 hc hN hi hj hl hij hil hjl hx hy hz ha.pa hw hs, fun M0 B H σ ρ D E w ⟨am, s⟩ l h => ha.snd _ am H σ ρ _ _ s.env h fun vs H1 ds q ag g r => by
    obtain ⟨d, e, f, rfl, hi', hj', hl', q⟩ := q
    cases r with
    | cons r1 r2 =>
      cases r2 with
      | cons r2 r3 =>
        cases r3 with
        | cons r3 r4 =>
          cases r4
          have s1 := s.go ag g
          have s2 := s1.putD (i := i) hi' r1
          have s3 := s2.putD (i := j) (by rw [List.length_set]; exact hj') r2
          have s4 := s3.putD (i := _) (by rw [List.length_set, List.length_set]; exact hl') r3
          exact ⟨_, _, _, rfl, l.nx _ H1 _ ⟨_, s4⟩ q⟩⟩
/-- y = [..] on one line, the list not changed later -/
theorem qs_setLcD {elt tg iter : Expr} {ifs : List Expr} {scope : Scope} {own : List (Str × Nat)} {wi : TI} {ι : TId} {g : TG} {γ : TGd} {ks : List Nat} {tt : TT} {υ : TTd} {te : TE} {τe : TD} {i : Nat} {y : Str} {py spos : Pos} (hc : X.calm = true) (hN : X.N.Nodup) (hy : X.N[i]? = some y) (hyl : X.env.scope.names.lookup y = some .local)
    (hsw : swapsWith (.ListComp elt [⟨tg, iter, ifs, 0⟩] scope pos) (some (.Name y py)) spos.line X.env = pure true) (hi : PDI X C tg iter wi ι) (ok : BlkOk X.N X.env.scope scope own)
    (hg : ∀ (s : Shared) (H : Hp) (Cc : Addr) (cl : List (Str × Addr)) (fp : List Addr), PDG (X.blk s H scope (compEnvC scope cl Cc X.env) fp) C tg g γ ks) (ht : ∀ (s : Shared) (H : Hp) (Cc : Addr) (cl : List (Str × Addr)) (fp : List Addr), PDTs (X.blk s H scope (compEnvC scope cl Cc X.env) fp) C ifs tt υ)
    (he : ∀ (s : Shared) (H : Hp) (Cc : Addr) (cl : List (Str × Addr)) (fp : List Addr), PDE (X.blk s H scope (compEnvC scope cl Cc X.env) fp) C elt te τe) (hk : ∀ k ∈ ks, k ∈ own.map (·.2)) (w0 : Shared) (hs : ∀ x, foldedSetIterable iter X.env x = pure x := by intro _; rfl) :
    PDS X C (.Assign [.Name y py] (.ListComp elt [⟨tg, iter, ifs, 0⟩] scope pos) spos) (tAsg (tLc wi g tt te (own.map (·.2))) (gName i)) (dAsg (dOfL (dLc ι γ υ τe (own.map (·.2)))) (dgName i)) :=
  ⟨(qs_setLc hc hN hy hyl hsw hi ok hg ht he hk w0 hs).ps, snd_asg (snd_ofL (ql_lc (pos := pos) hc hN hi ok hg ht he hk w0 hs).snd) (fun N am H σ ρ v d QD Q s r h hQ => hQ _ _ (s.putD h.1 r) h.2)⟩
end

/-! ### names of the built-ins that the module leaves alone, and its numbers -/
structure Nms (mg : Str → Option Value) : Prop where
  len : mg "len" = none
  sum : mg "sum" = none
  all : mg "all" = none
  list : mg "list" = none
  tuple : mg "tuple" = none
  isinstance : mg "isinstance" = none
  int : mg "int" = none
  bool : mg "bool" = none
  range : mg "range" = none
  enumerate : mg "enumerate" = none
  zip : mg "zip" = none
  sorted : mg "sorted" = none
  repr : mg "repr" = none
  max : mg "max" = none
  kinds : ∃ t, mg "KINDS" = some (.int 3 t)
  most_places : ∃ t, mg "MOST_PLACES" = some (.int 400 t)
  most_ties : ∃ t, mg "MOST_TIES" = some (.int 600 t)

/-! ### readings: loops over lists -/
theorem lc_map {α : Type} {γ : TGd} {τe : TD} {vs : List Nat} {ρ : Env3} {Q : List PyData → Prop} {enc f : α → PyData} : ∀ (xs : List α) (acc : List PyData), acc.length + xs.length ≤ 100000 →
    (∀ x ∈ xs, ∀ K : PyData → Prop, K (f x) → γ (enc x) (wipeD ρ vs) fun ρ2 => τe ρ2 K) → Q (acc ++ xs.map f) → lcGo γ dYes τe vs ρ Q (xs.map enc) acc
  | [], acc, _, _, q => by
    show Q acc
    simpa using q
  | x :: xs, acc, hl, h, q => by
    rw [List.length_cons] at hl
    refine h x List.mem_cons_self (fun y => acc.length < 100000 ∧ lcGo γ dYes τe vs ρ Q (xs.map enc) (acc ++ [y])) ⟨by omega, ?_⟩
    refine lc_map xs _ (by rw [List.length_append, List.length_singleton]; omega) (fun z hz => h z (List.mem_cons_of_mem _ hz)) ?_
    simpa using q
theorem lc_filter {α : Type} {γ : TGd} {υ : TTd} {τe : TD} {vs : List Nat} {ρ : Env3} {Q : List PyData → Prop} {enc f : α → PyData} {p : α → Bool} : ∀ (xs : List α) (acc : List PyData), acc.length + xs.length ≤ 100000 →
    (∀ x ∈ xs, ∀ (K : PyData → Prop) (K' : Prop), (p x = true → K (f x)) → (p x = false → K') → γ (enc x) (wipeD ρ vs) fun ρ2 => υ ρ2 fun b => match b with
      | true => τe ρ2 K
      | false => K') → Q (acc ++ (xs.filter p).map f) → lcGo γ υ τe vs ρ Q (xs.map enc) acc
  | [], acc, _, _, q => by
    show Q acc
    simpa using q
  | x :: xs, acc, hl, h, q => by
    rw [List.length_cons] at hl
    refine h x List.mem_cons_self (fun y => acc.length < 100000 ∧ lcGo γ υ τe vs ρ Q (xs.map enc) (acc ++ [y])) _ (fun e => ⟨by omega, ?_⟩) fun e => ?_
    · refine lc_filter (f := f) (p := p) xs _ (by rw [List.length_append, List.length_singleton]; omega) (fun z hz => h z (List.mem_cons_of_mem _ hz)) ?_
      rw [List.filter_cons_of_pos e] at q
      simpa using q
    · refine lc_filter (f := f) (p := p) xs _ (by omega) (fun z hz => h z (List.mem_cons_of_mem _ hz)) ?_
      rw [List.filter_cons_of_neg (by rw [e]; exact Bool.false_ne_true)] at q
      exact q
/-- elements of which a property is known alone -/
theorem lc_any {α : Type} {γ : TGd} {τe : TD} {vs : List Nat} {ρ : Env3} {Q : List PyData → Prop} {enc : α → PyData} {P : PyData → Prop} : ∀ (xs : List α) (acc : List PyData), acc.length + xs.length ≤ 100000 →
    (∀ x ∈ xs, ∀ K : PyData → Prop, (∀ y, P y → K y) → γ (enc x) (wipeD ρ vs) fun ρ2 => τe ρ2 K) → (∀ ys, ys.length = xs.length → (∀ y ∈ ys, P y) → Q (acc ++ ys)) → lcGo γ dYes τe vs ρ Q (xs.map enc) acc
  | [], acc, _, _, q => by
    have h := q [] rfl (by simp)
    rw [List.append_nil] at h
    exact h
  | x :: xs, acc, hl, h, q => by
    rw [List.length_cons] at hl
    refine h x List.mem_cons_self (fun y => acc.length < 100000 ∧ lcGo γ dYes τe vs ρ Q (xs.map enc) (acc ++ [y])) fun y hy => ⟨by omega, ?_⟩
    refine lc_any xs _ (by rw [List.length_append, List.length_singleton]; omega) (fun z hz => h z (List.mem_cons_of_mem _ hz)) fun ys hl hP => ?_
    have := q (y :: ys) (by rw [List.length_cons, List.length_cons, hl]) fun z hz => (List.mem_cons.mp hz).elim (fun e => by rw [e]; exact hy) (hP z)
    simpa using this
/-- a for by an invariant over the turn and the slots -/
theorem for_ind {α : Type} {γ : TGd} {τb : TSd} {D : DE} {enc : α → PyData} (I : Nat → Env3 → Prop) : ∀ (xs : List α) (n : Nat) (ρ : Env3), I n ρ →
    (∀ (i : Nat) x ρ, xs[i]? = some x → I (n + i) ρ → ∀ K : Env3 → Prop, (∀ ρ', I (n + i + 1) ρ' → K ρ') → γ (enc x) ρ fun ρ2 => τb { D with nx := K, ct := K, bk := D.nx } ρ2) → (∀ ρ, I (n + xs.length) ρ → D.nx ρ) → forGo γ τb (xs.map enc) D ρ
  | [], n, ρ, h0, _, hd => hd ρ h0
  | x :: xs, n, ρ, h0, hs, hd => by
    refine hs 0 x ρ rfl h0 (fun ρ' => forGo γ τb (xs.map enc) D ρ') fun ρ' h1 => ?_
    refine for_ind I xs (n + 1) ρ' h1 (fun i y ρ e hI => ?_) fun ρ hI => hd ρ ?_
    · have e1 : n + 1 + i = n + (i + 1) := by omega
      rw [e1] at hI ⊢
      exact hs (i + 1) y ρ (by simpa using e) hI
    · rw [List.length_cons]
      have e1 : n + 1 + xs.length = n + (xs.length + 1) := by omega
      rw [e1] at hI
      exact hI
end L3
namespace L3
open PySem L2
open PySem.Spec
theorem bt_sum : bootBuiltins "sum" = some (.builtin "sum") := by decide +kernel
theorem bt_all : bootBuiltins "all" = some (.builtin "all") := by decide +kernel
theorem bt_max : bootBuiltins "max" = some (.builtin "max") := by decide +kernel
theorem bt_int : bootBuiltins "int" = some (.type "int") := by decide +kernel
theorem bt_bool : bootBuiltins "bool" = some (.type "bool") := by decide +kernel
theorem bt_list : bootBuiltins "list" = some (.type "list") := by decide +kernel
theorem bt_tuple : bootBuiltins "tuple" = some (.type "tuple") := by decide +kernel
theorem bt_isi : bootBuiltins "isinstance" = some (.builtin "isinstance") := by decide +kernel
theorem bt_sorted : bootBuiltins "sorted" = some (.builtin "sorted") := by decide +kernel
theorem bt_repr : bootBuiltins "repr" = some (.builtin "repr") := by decide +kernel

/-! ### sorted(a tuple), at the library's level -/
section
open PyProof.Rows
variable {prog : Program} {w : World} {A : Around} {E : Value → Shared → Prop} {s : Shared}
theorem collect_tup {l : Addr} {o : Obj} {vs : List Value} {n : Nat} {Q : List Value → Shared → Prop} (ho : s.heap.get? l = some o) (hc : o.cls = .type "tuple") (hd : o.data = .seq vs.toArray n)
    (h : Q vs { s with heap := (s.heap.push (seqObj "list" #[] 0)).update s.heap.objs.size (Obj.mapSeq (· ++ vs.toArray)) }) (hz : vs.length ≤ sizeLine) : wpAny (model prog w) A (collect (.ref l)) Q E s := by
  unfold collect
  refine wpAny_bind (wpAny_runValue (codeAny_builtin entry_proto_collect' ?_))
  show wpAny _ _ (do again (.builtin "list.__iadd__" ⟨[← newList [], .ref l], []⟩)) _ _ s
  refine wpAny_bind (wpAny_newList (wpAny_pure ⟨Code.quiet_builtin _ (by decide +kernel), codeAny_builtin entry_list_iadd' ?_⟩))
  show wpAny _ _ (Builtin.List.listExtendWith (.ref s.heap.objs.size) (.ref l) (.ref s.heap.objs.size)) _ _ { s with heap := s.heap.push (seqObj "list" #[] 0) }
  unfold Builtin.List.listExtendWith
  have h1 : (s.heap.push (seqObj "list" #[] 0)).get? l = some o := Heap.get?_push_of_some _ ho
  have hb : (Value.type "tuple" == Value.type "tuple") = true := by rfl
  refine wpAny_bind (wpAny_typeOf (T := "tuple") ⟨o, h1, hc⟩ ?_)
  rw [if_pos (by rw [hb]; simp)]
  have h2 : (s.heap.push (seqObj "list" #[] 0)).get? s.heap.objs.size = some (seqObj "list" #[] 0) := Heap.get?_push_size _ rfl
  refine wpAny_bind (listItems_at h1 hd (wpAny_bind (listItems_at (xs := #[]) (n := 0) h2 rfl ?_)))
  rw [if_neg (by simp)]
  refine wpAny_bind (listUpdate_at (xs := #[]) (n := 0) h2 rfl (wpAny_pure ?_) (Nat.zero_le _) (by show (#[] ++ vs.toArray).size ≤ sizeLine + 1; simp only [Array.size_append, List.size_toArray, List.length_nil]; omega))
  show wpAny (model prog w) A (do
      let o ← load s.heap.objs.size
      match o.data with
      | .seq xs _ => pure xs.toList
      | _ => unsupported "internal:collect") Q E { s with heap := (s.heap.push (seqObj "list" #[] 0)).update s.heap.objs.size (Obj.mapSeq (· ++ vs.toArray)) }
  refine wpAny_bind (wpAny_load (get?_update_seq h2 _) ?_)
  show wpAny _ _ (pure ((#[] : Array Value) ++ vs.toArray).toList) Q E _
  have e : ((#[] : Array Value) ++ vs.toArray).toList = vs := by simp
  rw [e]
  exact wpAny_pure h
open PySem.W in
theorem sortedT_vals {κ : PyProof.Rows.KeyKind} {l : Addr} {o : Obj} {vs : List Value} {n : Nat} {Q : Value → Shared → Prop} (ho : s.heap.get? l = some o) (hc : o.cls = .type "tuple") (hd : o.data = .seq vs.toArray n)
    (S : SortsAt prog w A.in1.in1 { s with heap := sortingHeap (copyHeap s.heap vs) (s.heap.objs.size + 1) vs } κ vs) (hL : vs.length ≤ sizeLine)
    (h : Q (.ref (s.heap.objs.size + 1)) { s with heap := sortedAll s.heap vs (sortVals κ false vs vs).toArray }) : wpAny (model prog w) A (call (.builtin "sorted") [.ref l]) Q E s := by
  refine Calls.call_function_entry kind_sorted plain_sorted entry_sorted (args_sorted1 _) ?_
  unfold Builtin.«sorted»
  refine wpAny_bind (m := checkCount "sorted" 1 1 _) (wpAny_pure ?_)
  refine wpAny_bind (collect_tup ho hc hd (wpAny_bind (wpAny_newList ?_ hL)) hL)
  have hz : ((s.heap.push (seqObj "list" #[] 0)).update s.heap.objs.size (Obj.mapSeq (· ++ vs.toArray))).objs.size = s.heap.objs.size + 1 := by
    rw [Heap.size_update, size_push']
  show wpAny _ _ _ _ _ { s with heap := copyHeap s.heap vs }
  rw [hz]
  have body := list_sort_vals (prog := prog) (w := w) (A := A.in1.in1) (E := E) (κ := κ) (s := { s with heap := copyHeap s.heap vs }) (P := fun f s' => f = .done (.ret .none) ∧ Q (.ref (s.heap.objs.size + 1)) s') (copyHeap_at s.heap vs) S hL ⟨rfl, h⟩
  refine wpAny_bind (wpAny_holding (wpAny_call_entry_kw slot_list_sort ⟨_, copyHeap_at s.heap vs, rfl⟩ entry_list_sort ?_ (args_list_sort _)))
  refine wpAny_mono body (fun f s' hf => ?_) fun _ _ e => e
  obtain ⟨rfl, hq⟩ := hf
  exact ⟨_, rfl, wpAny_pure ⟨_, rfl, hq⟩⟩
open PySem.W in
/-- sorted(t): as sorted_data says it of lists -/
theorem sortedT_data {β : Type} {R : Value → β → Prop} {enc : β → PyData} {bs : List β} {l : Addr} {o : Obj} {vs : List Value} {n : Nat} {Q : Value → Shared → Prop} (ho : s.heap.get? l = some o) (hc : o.cls = .type "tuple") (hd : o.data = .seq vs.toArray n) (e : EachIs R vs bs) (er : EachIs (fun v b => ∃ as, Reads s.heap v (enc b) as) vs bs)
    (hal : AllAlike (bs.map enc)) (hk : Sortable (bs.map enc)) (hL : bs.length ≤ sizeLine) (hu : ∀ b, b ∈ bs → A.units + 2 + (enc b).depth < cLine) (h : ∀ out, out.length = bs.length → EachIs R out (bs.mergeSort (dataLe false enc)) → Q (.ref (s.heap.objs.size + 1)) { s with heap := sortedAll s.heap vs (List.toArray out) }) :
    wpAny (model prog w) A (call (.builtin "sorted") [.ref l]) Q E s := by
  have er2 : EachIs (fun v b => ∃ as, Reads (sortingHeap (copyHeap s.heap vs) (s.heap.objs.size + 1) vs) v (enc b) as) vs bs := er.mono fun _ _ ⟨as, r⟩ => ⟨as, PyProof.Rows.Reads.keeps (fun _ _ => sorting_copy_old) r⟩
  have st := SortsAt.data (prog := prog) (w := w) (A := A.in1.in1) (s := { s with heap := sortingHeap (copyHeap s.heap vs) (s.heap.objs.size + 1) vs }) (each_map (R := fun v d => ∃ as, Reads (sortingHeap (copyHeap s.heap vs) (s.heap.objs.size + 1) vs) v d as) enc er2) hal hk (bound_map hu)
  refine sortedT_vals ho hc hd st (by rw [e.length]; exact hL) (h _ ?_ (sortVals_data false e er2 hal))
  rw [sortVals_length false rfl]
  exact e.length
end

/-! ### sorted, said of data -/
section
open PySem.W
theorem each_pairs {G : Hp} : ∀ {vs : List V} {ds : List PyData} {us : List Value}, R3s G vs ds → Vals vs us → EachIs (fun u (b : V × PyData) => RelV b.1 u ∧ R3 G b.1 b.2) us (vs.zip ds)
  | [], [], _, _, r => by
    cases r
    exact .nil
  | v :: vs, d :: ds, _, q, r => by
    cases q with
    | cons q1 q2 =>
      cases r with
      | cons r1 r2 => exact .cons ⟨r1, q1⟩ (each_pairs q2 r2)
theorem pairs_each {G : Hp} : ∀ {us : List Value} {bs : List (V × PyData)}, EachIs (fun u (b : V × PyData) => RelV b.1 u ∧ R3 G b.1 b.2) us bs → R3s G (bs.map (·.1)) (bs.map (·.2)) ∧ Vals (bs.map (·.1)) us
  | _, _, .nil => ⟨.nil, .nil⟩
  | _, _, .cons h t => by
    obtain ⟨h1, h2⟩ := pairs_each t
    exact ⟨.cons h.2 h1, .cons h.1 h2⟩
theorem zip_snd {G : Hp} : ∀ {vs : List V} {ds : List PyData}, R3s G vs ds → (vs.zip ds).map (·.2) = ds
  | [], [], _ => rfl
  | v :: vs, d :: ds, q => by
    cases q with
    | cons q1 q2 => rw [List.zip_cons_cons, List.map_cons, zip_snd q2]
/-- the order of Python's data -/
def leD : PyData → PyData → Bool := dataLe false id
def srtD (ds : List PyData) : List PyData := ds.mergeSort leD
theorem srt_pairs (bs : List (V × PyData)) : (bs.mergeSort (dataLe false (·.2))).map (·.2) = srtD (bs.map (·.2)) := by
  unfold srtD
  exact List.map_mergeSort fun a _ b _ => rfl
def SortOk (ds : List PyData) : Prop := AllAlike ds ∧ Sortable ds ∧ ds.length ≤ 100000 ∧ ∀ d ∈ ds, d.depth ≤ 20
def rSortD : List V → Hp → VK → Prop := fun xs H Q => ∃ (G : Hp) (a : Addr) (vs : List V) (ds : List PyData), xs = [.ref a] ∧ Sub G H ∧ (H a = some (.lst vs) ∨ H a = some (.tup vs)) ∧ R3s G vs ds ∧ SortOk ds ∧ ∀ p us, H p = none → R3s G us (srtD ds) → Q (.ref p) (upd H p (.lst us))
theorem cr_sortD {X : Cx} (hu : X.A.units + 64 < cLine) : CallR X (.builtin "sorted") rSortD := by
  intro pins s σ H xs us Q I rv h
  obtain ⟨G, a, vs, ds, rfl, hG, hH, r, ⟨h1, h2, h3, h4⟩, q⟩ := h
  obtain ⟨u, rfl, ru⟩ := vals1 rv
  cases ru
  have hlen := r3s_len r
  have hzs := zip_snd r
  have hzl : (vs.zip ds).length = ds.length := by rw [List.length_zip, hlen, Nat.min_self]
  have hsl := sizeLine_eq
  have main : ∀ its : List Value, Vals vs its → (∀ (Qf : Value → Shared → Prop), EachIs (fun u (b : V × PyData) => RelV b.1 u ∧ R3 G b.1 b.2) its (vs.zip ds) → EachIs (fun u (b : V × PyData) => ∃ as, Reads s.heap u b.2 as) its (vs.zip ds) →
      (∀ out, out.length = (vs.zip ds).length → EachIs (fun u (b : V × PyData) => RelV b.1 u ∧ R3 G b.1 b.2) out ((vs.zip ds).mergeSort (dataLe false (·.2))) → Qf (.ref (s.heap.objs.size + 1)) { s with heap := PyProof.Rows.sortedAll s.heap its (List.toArray out) }) → wpAny (model X.prog X.w) X.A (call (.builtin "sorted") [.ref a]) Qf X.xe s) →
      wpAny (model X.prog X.w) X.A (call (.builtin "sorted") [.ref a]) (EP X pins σ Q) X.xe s := fun its rits run => by
    have e1 := each_pairs r rits
    refine run _ e1 (e1.mono fun u b ⟨z1, z2⟩ => Dp.reads I b.2 b.1 u (r3_dp (K := X.K) _ _ (r3_sub hG _ _ z2)) z1) fun out ho eo => ?_
    obtain ⟨z1, z2⟩ := pairs_each eo
    rw [srt_pairs, hzs] at z1
    obtain ⟨c, hc⟩ := PyProof.Rows.sortedAll_at s.heap its out.toArray
    have hf : H (s.heap.objs.size + 1) = none := I.hok.fresh (Nat.le_succ _)
    refine ⟨.ref (s.heap.objs.size + 1), _, I.laid (t' := s.toks) (o := .lst (((vs.zip ds).mergeSort (dataLe false (·.2))).map (·.1))) (fun b o e => PyProof.Rows.sortedAll_old e) (Nat.le_succ _) ⟨?_, out, c, z2, hc⟩, rfl, q _ _ hf z1⟩
    rw [List.length_map, List.length_mergeSort, hzl]
    omega
  have hal : AllAlike ((vs.zip ds).map (·.2)) := by rw [hzs]; exact h1
  have hso : Sortable ((vs.zip ds).map (·.2)) := by rw [hzs]; exact h2
  have hun : ∀ b, b ∈ vs.zip ds → X.A.units + 2 + b.2.depth < cLine := fun b hb => by
    have := h4 b.2 (by rw [← hzs]; exact List.mem_map.mpr ⟨b, hb, rfl⟩)
    omega
  rcases hH with hH | hH
  · obtain ⟨its, rits, pl, _⟩ := I.list (.of hH)
    exact main its rits fun Qf e1 e2 h => sorted_data pl.isList e1 e2 hal hso (by omega) hun h
  · obtain ⟨its, rits, ⟨o, ho, hc, n, hd⟩, _⟩ := I.tuple (.of hH)
    exact main its rits fun Qf e1 e2 h => sortedT_data ho hc hd e1 e2 hal hso (by omega) hun h
section
variable {X : Cx} {C : C3} {e : Expr} {te : TE} {τ : TD} {pos p : Pos}
def dSorted (τ : TD) : TLd := fun ρ Q => τ ρ fun d => ∃ ds, (d = .list ds ∨ d = .tuple ds) ∧ SortOk ds ∧ Q (srtD ds)
theorem ql_sorted (hu : X.A.units + 64 < cLine) (hg : Gl X "sorted") (hm : X.mg "sorted" = none) (he : PDE X C e te τ) (h1 : starEach [e] X.env = (false, eval e X.env) :: starEach [] X.env := by rfl) (hpl : (backTo pos (starEach [] X.env)).any (·.1) = false := by rfl) :
    PDL X C (.Call (.Name "sorted" p) [e] [] pos) (tCB rSortD (tCons te tNil)) (dSorted τ) := ⟨pe_callB (cr_sortD hu) hg hm bt_sorted (pa_cons he.pe pa_nil h1) (by decide) (by decide) h1 hpl, fun N am H σ ρ QD Q en q hQ => he.snd N am H σ ρ _ _ en q fun v H1 d ⟨ds, hd, hs, q1⟩ a g r => by
  have fin : ∀ (b : Addr) (us : List V), v = .ref b → ¬ N b → (H1 b = some (.lst us) ∨ H1 b = some (.tup us)) → R3s (wo H1 N) us ds → rSortD [v] H1 Q := fun b us ev nb hb hu => by
    subst ev
    refine ⟨wo H1 N, b, us, ds, rfl, sub_all, hb, hu, hs, fun p2 ws hp rw' => ?_⟩
    obtain ⟨a1, g1, w1, s1⟩ := lay (en.go a g).mok g (o := .lst ws) hp
    exact hQ p2 _ ws _ q1 (a.free (fun w => (en.go a g).mok.fresh hp (en.mok.sub _ w)) hp) (a.trans a1) g1 upd_same (r3s_plus hp rw')
  rcases hd with rfl | rfl
  · cases r with
    | @lst b us _ hb hu => exact fin b us rfl (wo_some hb).1 (.inl (wo_some hb).2) hu
  · cases r with
    | @tup b us _ hb hu => exact fin b us rfl (wo_some hb).1 (.inr (wo_some hb).2) hu⟩
end
end
end L3
namespace PySem
open Sem (wp)
set_option maxHeartbeats 4000000 in
/-- enumerate(t), t a tuple: its two cells -/
theorem meets_enum_tup (l : Addr) (items : Array Value) : Meets (Builtin.«enumerate.__new__» ⟨[.type "enumerate", .ref l], []⟩) (fun _ R s => s.heap.IsTuple l items ∧
      R (.ok (.ret (.ref (s.heap.push { cls := .type "tuple_iterator", data := .fields #[.ref l, .int 0 0] }).objs.size)))
        { s with heap := (s.heap.push { cls := .type "tuple_iterator", data := .fields #[.ref l, .int 0 0] }).push { cls := .type "enumerate", data := .fields #[.none, .bool false, .ref s.heap.objs.size, rawInt 0, .none, .none] } }) :=
  .of_wp fun prog w A R s h => by
    obtain ⟨hp, g, d, tk, os⟩ := s; obtain ⟨h1, h⟩ := h
    have hsub := sub_enumerate
    have q1 : ∀ {A' : Around} {E : Value → Shared → Prop} {Q : Value → Shared → Prop}, Q (.ref hp.objs.size) ⟨hp.push { cls := .type "tuple_iterator", data := .fields #[.ref l, .int 0 0] }, g, d, tk, os⟩ → wpAny (model prog w) A' (pyIter (.ref l)) Q E ⟨hp, g, d, tk, os⟩ :=
      fun q => (begins_tuple l items).iter prog w _ _ ⟨hp, g, d, tk, os⟩ _ h1 q
    wp_walk using q1
    refine wpAny_stack_any fun st => wpAny_pure ?_
    split
    · rename_i c _ _ _ _ _
      cases (c == Value.type "enumerate")
      · wp_walk using q1
        exact ⟨_, rfl, h⟩
      · wp_walk using q1
        exact ⟨_, rfl, h⟩
    · wp_walk using q1
      exact ⟨_, rfl, h⟩
theorem call_enum_tup {prog : Program} {w : World} {A : Around} {E : Value → Shared → Prop} {s : Shared} {l : Addr} {items : Array Value} {Q : Value → Shared → Prop} (hl : s.heap.IsTuple l items)
    (h : ∀ h', IsEnum h' (s.heap.objs.size + 1) s.heap.objs.size 0 .none → h'.IsTupleIter s.heap.objs.size l 0 → h'.objs.size = s.heap.objs.size + 2 →
      (∀ b o, s.heap.get? b = some o → h'.get? b = some o) → Q (.ref (s.heap.objs.size + 1)) { s with heap := h' }) :
    wpAny (model prog w) A (call (.type "enumerate") [.ref l]) Q E s := by
  refine callType_new F.called_enumerate (by decide) (F.typeCall_enumerate_1 _) (F.newCall_enumerate_1 _) (fun obj => F.args_object_init_2 obj _) F.entry_enumerate_new (meets_enum_tup l items) ⟨hl, ?_⟩
  have hz : (s.heap.push { cls := .type "tuple_iterator", data := .fields #[.ref l, .int 0 0] }).objs.size = s.heap.objs.size + 1 := Heap.size_push ..
  show _ ∧ _
  rw [hz]
  have he : IsEnum ((s.heap.push { cls := .type "tuple_iterator", data := .fields #[.ref l, .int 0 0] }).push { cls := .type "enumerate", data := .fields #[.none, .bool false, .ref s.heap.objs.size, rawInt 0, .none, .none] }) (s.heap.objs.size + 1) s.heap.objs.size 0 .none := by
    have q := Heap.get?_push_size (s.heap.push { cls := .type "tuple_iterator", data := .fields #[.ref l, .int 0 0] }) (o := { cls := .type "enumerate", data := .fields #[.none, .bool false, .ref s.heap.objs.size, rawInt 0, .none, .none] }) rfl
    rw [hz] at q
    exact q
  exact ⟨⟨_, he, rfl⟩, h _ he ⟨_, Heap.get?_push_of_some _ (Heap.get?_push_size _ rfl), rfl, rfl⟩ (by rw [Heap.size_push, hz]) fun b o x => Heap.get?_push_of_some _ (Heap.get?_push_of_some _ x)⟩
end PySem
namespace L3
open PySem L2
open PySem.Spec
/-- the tuple at a, each item in a new pair -/
def Itet (K : PySem.W.Frag) (a : Addr) : It :=
  ⟨fun i H => ∃ (xs : List V) (x : V), SqT K H a xs ∧ xs[i]? = some x, fun i H v H' => ∃ T x, v = .ref T ∧ H T = none ∧ H' = upd H T (.tup [.int (i : Nat), x]) ∧ ∀ xs, SqT K H a xs → xs[i]? = some x, fun i H => ∃ xs : List V, SqT K H a xs ∧ xs.length = i⟩
theorem turn_enumT {P : Program} {w : World} {K : PySem.W.Frag} {elts : List Expr} {kk : Nat} {tpos : Pos} (a e it : Addr) :
    Turn P w K (.Tuple elts kk tpos) (Itet K a) [e, it] e (fun i h => (∃ old, IsEnum h e it ((i : Nat) : Int) old) ∧ h.IsTupleIter it a i ∧ e ≠ it) where
  mem := by simp
  obj := fun i h st b hb => by
    obtain ⟨⟨old, he⟩, ⟨o, ho, hc, hd⟩, _⟩ := st
    rcases (show b = e ∨ b = it by simpa using hb) with z | z
    · rw [z]; exact ⟨_, he, fun v q => nomatch q⟩
    · rw [z]; exact ⟨o, ho, fun v q => by rw [hd] at q; cases q⟩
  keep := fun i h h' st k => let ⟨⟨old, he⟩, hi, hne⟩ := st; ⟨⟨old, k e (by simp) _ he⟩, hi.at fun o q => k it (by simp) o q, hne⟩
  item := by
    intro X hP hw hK hc i pins s σ H E I hf st hg
    subst hP hw hK
    obtain ⟨⟨old, he⟩, hit, hne⟩ := st
    obtain ⟨xs, x, hq, hx⟩ := hg
    obtain ⟨its, rv, p, hz⟩ := I.tuple hq
    obtain ⟨u, hu, ru⟩ := rv.get hx
    have hel : e < s.heap.objs.size := Heap.lt_size he
    have hil : it < s.heap.objs.size := by obtain ⟨_, q, _⟩ := hit; exact Heap.lt_size q
    have hlen := (List.getElem?_eq_some_iff.mp hu).1
    obtain ⟨oa, hoa, hca, na, hda⟩ := id p
    have nai : a ≠ it := fun z => by
      obtain ⟨oi, hoi, _, hdi⟩ := id hit
      rw [← z, hoa] at hoi
      cases hoi
      rw [hda] at hdi
      cases hdi
    have nae : e ≠ a := fun z => by
      have q : s.heap.get? e = some oa := by rw [z]; exact hoa
      rw [he] at q
      cases q
      cases hda
    refine wpAny_pyNext_enum_itemD (Draws.tuple (by show X.A.handled = none; exact I.ok.hd hc) it a nai its.toArray) he ⟨hit, p⟩ (by simpa using hlen) hne (by simp [hne, nae]) fun y h' tk hy ho st' hT hsz hk => ?_
    have ey : y = u := by
      have q : its.toArray[i]? = some u := by simpa using hu
      exact Option.some.inj (hy.symm.trans q)
    subst ey
    refine ⟨_, rfl, wpAny_letOwnedTupleGo_enum (s := { s with heap := h', toks := tk + 1 }) ho fun h2 he' sb => ?_⟩
    have hT2 : h2.get? s.heap.objs.size = some { cls := .type "tuple", data := .seq #[.int i tk, y] } := (sb.2 _ (Nat.ne_of_gt hel)).trans hT
    have new : ObjOk X.prog X.w (upd H s.heap.objs.size (.tup [.int (i : Nat), x])) h2 s.heap.objs.size (.tup [.int (i : Nat), x]) :=
      ⟨by show 2 ≤ sizeLine; decide, [.int i tk, y], .cons ⟨_, rfl⟩ (.cons ru .nil), ⟨_, hT2, rfl, _, rfl⟩⟩
    have I1 : Inv X pins σ (upd H s.heap.objs.size (.tup [.int (i : Nat), x])) { s with heap := h2, toks := tk + 1 } :=
      I.turnedNew (ch := [e, it]) (fun b ob hb q => (sb.2 b (fun z => hb (by simp [z]))).trans (hk b ob (fun z => hb (by simp [z])) (fun z => hb (by simp [z])) q)) hf (Nat.le_refl _) new
    refine ⟨.ref s.heap.objs.size, _, I1, rfl, ⟨_, x, rfl, I.hok.fresh (Nat.le_refl _), rfl, fun ys hy => by rw [I.tuple_inj hy hq]; exact hx⟩, ⟨⟨y, ?_⟩, st'.1.at fun o q => (sb.2 it (Ne.symm hne)).trans q, hne⟩, fun b hb => ?_⟩
    · have e1 : ((i + 1 : Nat) : Int) = (i : Int) + 1 := by omega
      rw [e1]
      exact he'
    · have hb' : b < s.heap.objs.size := by
        rcases (show b = e ∨ b = it by simpa using hb) with z | z
        · rw [z]; exact hel
        · rw [z]; exact hil
      rw [upd_ne (Nat.ne_of_lt hb')]
      exact (hf b hb).1
  done := by
    intro X hP hw hK hc i pins s σ H E I hf st hg
    subst hP hw hK
    obtain ⟨⟨old, he⟩, hit, hne⟩ := st
    obtain ⟨xs, hq, hx⟩ := hg
    obtain ⟨its, rv, p, hz⟩ := I.tuple hq
    obtain ⟨f0, f1, f2, f3, f4, f5⟩ := hf it (by simp)
    obtain ⟨oa, hoa, hca, na, hda⟩ := id p
    have nai : a ≠ it := fun z => by
      obtain ⟨oi, hoi, _, hdi⟩ := id hit
      rw [← z, hoa] at hoi
      cases hoi
      rw [hda] at hdi
      cases hdi
    have hl := rv.length
    have hi : its.toArray.size = i := by simp; omega
    refine wpAny_pyNext_enum_endD (St := fun i h => h.IsTupleIter it a i ∧ h.IsTuple a its.toArray) (Draws.tuple (by show X.A.handled = none; exact I.ok.hd hc) it a nai its.toArray) he ⟨by rw [hi]; exact hit, p⟩ fun h' eb => ?_
    exact ⟨rfl, I.turned (t' := s.toks) (fun b o hb q => eb b o hb q) f0 f1 f3 f4 f5⟩
  self := fun A i s Q E st h => let ⟨⟨_, he⟩, _⟩ := st; wpAny_pyIter_enum he h
def iEnumT (K : PySem.W.Frag) (ta : TA) : TI := fun σ H R => ta σ H fun vs H1 => ∃ a xs, vs = [.ref a] ∧ SqT K H1 a xs ∧ R (Itet K a) H1
theorem pi_enumT {X : Cx} {e : Expr} {ta : TA} {p pos tpos : Pos} {elts : List Expr} {kk : Nat} (hg : Gl X "enumerate") (hm : X.mg "enumerate" = none) (ha : PA X [e] ta) (hs : starEach [e] X.env = [(false, eval e X.env)] := by rfl) :
    PI X (.Tuple elts kk tpos) (.Call (.Name "enumerate" p) [e] [] pos) (iEnumT X.K ta) := by
  refine ⟨fun pins s σ H R I h => ?_⟩
  refine PyProof.Rows.Call_ (ld_blt I hg hm PyProof.Rows.boot_enumerate (PyProof.Rows.callWith_type1 (thn (ha.run pos pins s σ H _ I h) fun us s1 ⟨vs, H1, I1, r1, q1⟩ => ?_) hs rfl))
  obtain ⟨a, xs, ex, hq, q⟩ := q1
  subst ex
  obtain ⟨u, rfl, ru⟩ := vals1 r1
  cases ru
  obtain ⟨its, rv, pt, hz⟩ := I1.tuple hq
  refine call_enum_tup pt fun h' he hit hsz hk => wpAny_pyIter_enum he ?_
  have I2 : Inv X pins σ H1 { s1 with heap := h' } := I1.kept (t' := s1.toks) hk
  refine ⟨s1.heap.objs.size + 1, [s1.heap.objs.size + 1, s1.heap.objs.size], _, _, H1, rfl, I2, turn_enumT a (s1.heap.objs.size + 1) s1.heap.objs.size, ⟨⟨.none, he⟩, hit, Nat.succ_ne_self _⟩, fun b hb => ?_, q⟩
  have hle : s1.heap.objs.size ≤ b := by
    rcases (show b = s1.heap.objs.size + 1 ∨ b = s1.heap.objs.size by simpa using hb) with z | z
    · rw [z]; exact Nat.le_add_right _ _
    · rw [z]; exact Nat.le_refl _
  exact I1.fpOk hle (I1.hok.fresh hle)
theorem it_enumT {K : PySem.W.Frag} {C : C3} {N : Msk} {H1 : Hp} {a : Addr} {us : List V} {ds : List PyData} (ha : wo H1 N a = some (.tup us)) (r : R3s (wo H1 N) us ds) : ItOk C N (Itet K a) H1 (enD 0 ds) := by
  obtain ⟨n, h⟩ := wo_some ha
  have k : ∀ {H}, GoN N H1 H → SqT K H a us := fun q => .of (q.keep h n (by intro _ z; cases z))
  refine ⟨fun i H q hi => ?_, fun H q => ⟨us, k q, by rw [r3s_len r, enD_len]⟩, fun i H x H' N' q sub m g hi y => ?_⟩
  · rw [enD_len] at hi
    obtain ⟨v, h1, _⟩ := r3s_get r (List.getElem?_eq_getElem hi)
    exact ⟨us, v, k q, h1⟩
  · obtain ⟨T, v, rfl, nT, rfl, y⟩ := y
    obtain ⟨d, h1, h2⟩ := r3s_get2 r (y us (k q))
    obtain ⟨a1, g1, w1, s1⟩ := lay m g (o := .tup [.int (i : Nat), v]) nT
    refine ⟨_, by rw [enD_get, h1]; rfl, a1, g1, .tup w1 (.cons ?_ (.cons (r3_sub s1 _ _ (r3_sub sub _ _ h2)) .nil))⟩
    rw [Nat.zero_add]
    exact .int _
section
variable {X : Cx} {C : C3} {e : Expr} {te : TE} {τ : TD} {pos p : Pos}
theorem qi_enumT {tpos : Pos} {elts : List Expr} {kk : Nat} (hg : Gl X "enumerate") (hm : X.mg "enumerate" = none) (h : PDE X C e te τ) (hs : starEach [e] X.env = [(false, eval e X.env)] := by rfl) : PDI X C (.Tuple elts kk tpos) (.Call (.Name "enumerate" p) [e] [] pos) (iEnumT X.K (tCons te tNil)) (dEnumT τ) :=
  ⟨pi_enumT hg hm (pa_cons h.pe pa_nil hs) hs, fun N am H σ ρ QI R en q hR => h.snd N am H σ ρ _ _ en q fun v H1 d ⟨ds, ed, q1⟩ a g r => by
    subst ed
    cases r with
    | @tup b us _ hb hu => exact ⟨b, us, rfl, .of (wo_some hb).2, hR _ H1 _ q1 a g (it_enumT hb hu)⟩⟩
/-! ### xs.index(e): an item that is there -/
def dIndex (τ υ : TD) : TD := fun ρ Q => τ ρ fun d => ∃ ds, d = .list ds ∧ υ ρ fun e => ∃ j z, SeqAt.shaped (.list ds) = true ∧ SeqAt.shaped e = true ∧ ds[j]? = some z ∧ PyData.eqv z e = true ∧ (∀ (m : Nat) (y : PyData), m < j → ds[m]? = some y → PyData.eqv y e = false) ∧ Q (.int (j : Nat))
theorem q_index {o : Expr} {to : TE} {τo : TD} {apos cpos : Pos} (hu : X.A.units + 65 < cLine) (ho : PDE X C o to τo) (he : PDE X C e te τ) (hbase : attributeBase o "index" X.env (eval o X.env) = eval o X.env := by rfl)
    (hfew : ((backTo cpos (starEach [e] X.env)).all (fun x => !x.1) && (backToKw cpos (keywordEach [] X.env)).all (fun x => x.1.isSome) && decide ([e].length + ([] : List Keyword).length + (if ([] : List Keyword).isEmpty then 0 else 1) < 30)) = true := by rfl)
    (hline : (apos.endLine == cpos.line) = true := by rfl) (h1 : starEach [e] X.env = (false, eval e X.env) :: starEach [] X.env := by rfl) (hpl : (backTo cpos (starEach [] X.env)).any (·.1) = false := by rfl) :
    PDE X C (.Call (.Attribute o "index" apos) [e] [] cpos) (tBM X.K "list" (rIndexD X.K) to (tCons te tNil)) (dIndex τo τ) :=
  ⟨pe_bm PySem.F.plainAttrs_list PySem.F.slot_list_index PySem.F.type_list_index (mt_indexD hu) ho.pe (pa_cons he.pe pa_nil h1) hbase hfew hline h1 hpl, fun N am H σ ρ QD Q en q hQ => ho.snd N am H σ ρ _ _ en q fun v H1 d q1 a g r => by
    obtain ⟨ds, rfl, q1⟩ := q1
    cases r with
    | @lst b us _ hb hu =>
      refine ⟨.inl ⟨rfl, us, .of (wo_some hb).2⟩, he.snd N am H1 σ ρ _ _ (en.go a g) q1 fun u H2 c ⟨j, z, h1, h2, h3, h4, h5, q2⟩ a2 g2 r2 => ?_⟩
      have s2 := sub_go en.mok.sub a2
      exact ⟨b, u, c, ds, j, z, rfl, rfl, r3_dp _ _ (r3_sub sub_all _ _ (r3_sub s2 _ _ (.lst hb hu))), r3_dp _ _ (r3_sub sub_all _ _ r2), h1, h2, h3, h4, h5, hQ _ H2 _ q2 (a.trans a2) g2 (.int _)⟩⟩
end
end L3
namespace L3
open PySem L2
open PySem.Spec
/-! ### a lambda with parameters and captured names, called where its cells still stand -/
structure LF where
  qual : Str
  params : Arguments
  body : Expr
  scope : Scope
  cl : List (Str × Addr)
  c : Addr
abbrev LF.nf (F : LF) : NdefX.NF := ⟨"<lambda>", F.qual, F.params, [], F.scope, F.cl, F.c⟩
abbrev LF.fd (F : LF) (pm ctv : Value) : FuncData := PySem.W.kla_fn "<lambda>" F.qual F.params F.body F.scope F.cl pm (.ref F.c) ctv
def LamAt (F : LF) (f : Addr) (h : Heap) : Prop := ∃ pm ctv, h.get? f = some (PySem.W.kla_obj "<lambda>" F.qual F.params F.body F.scope F.cl pm F.c ctv)
theorem LamAt.fn {F : LF} {f : Addr} {h : Heap} (l : LamAt F f h) : PySem.W.FnAt f h := by
  obtain ⟨pm, ctv, e⟩ := l
  exact ⟨_, _, _, _, e⟩
section
variable {CX : CXT} {P : Program} {w : World} {K : PySem.W.Frag} {mg : Str → Option Value} {base : Heap} {N ps fr : List Str} {F : LF} {f : Addr} {k : Nat}
theorem run_lam (S : NdefX.NScope N ps fr F.scope) (hb : ∀ (pm ctv : Value) (us : List Value), us.length = ps.length → bindArgs (F.fd pm ctv) ⟨us, []⟩ = pure (ps.zip us)) {A : Around} {outer : List Env} {s : Shared} {H : Hp} {us : List Value} {vs : List V} {ws : List (Option V)} {Q : VK} {E : XK}
    (hr : Room (k + 1) A) (e0 : Env0 P w K mg base A outer s H) (hf : LamAt F f s.heap) (hc : H F.c = some (LamX.CodeO F.c F.qual)) (C : NdefX.CellsAt F.cl fr ws s.heap H) (r : Vals vs us) (hl : vs.length = ps.length)
    (hbody : Room k (A.deeper (NdefX.envF F.nf f s.heap.objs.size)) → ∃ t, PE (NdefX.ncx CX P w K mg base N F.nf f A outer s H E) F.body t ∧ t (NdefX.startF N vs ws) H Q) :
    codeAny (model P w) A (.call (.ref f) ⟨us, []⟩) (CR CX outer P w H s Q E) s := by
  have lim : s.heap.NoLimit := e0.mod.nolimit.keeps fun b o e => (e0.bs b o e).1
  obtain ⟨pm, ctv, ho⟩ := hf
  refine PySem.W.kla_callFunE hr.depth ho rfl S.co S.gen rfl (NdefX.codeO_at e0.hok hc) ?_
  rw [hb pm ctv us (by rw [← r.length]; exact hl)]
  refine wpAny_pure (wpAny_newFunctionEnv S.nocell (fun ⟨n, _⟩ hy => S.par n (List.of_mem_zip hy).1) (fun h₁ hns hsb => ⟨lim.fresh _ hsb, ?_⟩) S.kind)
  show codeAny _ _ (.expr F.body (NdefX.envF F.nf f s.heap.objs.size)) _ _
  have kp : ∀ b o, s.heap.get? b = some o → h₁.get? b = some o := fun b o e => hsb.extBut b o (Nat.ne_of_lt (Heap.lt_size e)) (Heap.get?_push_of_some _ e)
  obtain ⟨t, ht, hq⟩ := hbody (hr.deeper _)
  have I : Inv (NdefX.ncx CX P w K mg base N F.nf f A outer s H E) [] (NdefX.startF N vs ws) H { s with heap := h₁, toks := s.toks + (ps.zip us).length } := NdefX.inv_startN (F := F.nf) S hr.hd e0 hl r C hns kp
  refine PySem.W.kla_codeExpr (wpAny_mono (ht.run [] _ (NdefX.startF N vs ws) H Q I hq) (fun v s' hs => ?_) fun e s' hs => hs)
  obtain ⟨w', H', J, rv, q⟩ := hs
  exact ⟨w', H', J.os, J.bare, J.base, J.hok, rv, q⟩
end
/-- step(e): the slot i holds the lambda; ws: what its cells held when the running frame began -/
def tLamCall (F : LF) (f : Addr) (i : Nat) (N : List Str) (ws : List (Option V)) (te tb : TE) : TE := fun σ H Q => σ[i]? = some (some (.ref f)) ∧ te σ H fun v H1 => H1 F.c = some (LamX.CodeO F.c F.qual) ∧ tb (NdefX.startF N [v] ws) H1 Q
theorem pe_lam1 {X : Cx} {F : LF} {f : Addr} {N fr : List Str} {ws : List (Option V)} {i k : Nat} {x y : Str} {e : Expr} {te tb : TE} {p pos : Pos} (hf : LamAt F f X.s_0.heap) (hfn : X.H_0 f = none) (hff : f ∉ X.fs) (hfx : f ∉ X.ex) (C : NdefX.CellsAt F.cl fr ws X.s_0.heap X.H_0) (nf : ∀ y c, F.cl.lookup y = some c → c ∉ X.fs) (hx : ∀ y c, F.cl.lookup y = some c → c ∉ X.ex)
    (S : NdefX.NScope N [y] fr F.scope) (hb : ∀ (pm ctv : Value) (us : List Value), us.length = [y].length → bindArgs (F.fd pm ctv) ⟨us, []⟩ = pure ([y].zip us)) (hr : Room (k + 1) X.A)
    (hbody : ∀ (A : Around) (outer : List Env) (s : Shared) (H : Hp), Room k (A.deeper (NdefX.envF F.nf f s.heap.objs.size)) → PE (NdefX.ncx CX0 X.prog X.w X.K X.mg X.base N F.nf f A outer s H E0) F.body tb)
    (hN : X.N[i]? = some x) (hv : Vis X.env.scope x) (he : PE X e te) (hd : (x == ("__debug__" : Str)) = false := by decide) (hcd : (x == ("__classdict__" : Str)) = false := by decide)
    (h1 : starEach [e] X.env = (false, eval e X.env) :: starEach [] X.env := by rfl) (hpl : (backTo pos (starEach [] X.env)).any (·.1) = false := by rfl) :
    PE X (.Call (.Name x p) [e] [] pos) (tLamCall F f i N ws te tb) := by
  refine ⟨fun pins s σ H Q I h => ?_⟩
  obtain ⟨hs, ht⟩ := h
  refine wpAny_Call_Name_kw (thn ((pe_var (pos := p) hN hv hd hcd).run pins s σ H (fun v H1 => v = .ref f ∧ H1 = H) I ⟨.ref f, hs, rfl, rfl⟩) fun u s1 ⟨v, H1, I1, r1, q1⟩ => ?_)
  obtain ⟨ev, eH⟩ := q1
  subst ev
  rw [eH] at I1
  obtain rfl : u = Value.ref f := r1
  have lamAt : ∀ {σ : L2.St} {H : Hp} {s : Shared}, Inv X pins σ H s → LamAt F f s.heap := fun J => by
    obtain ⟨pm, ctv, e⟩ := hf
    exact ⟨pm, ctv, J.base.keep f _ e hfn hff hfx⟩
  refine PySem.W.callWith_F (first := []) (lamAt I1).fn (thn ((pa_cons he pa_nil h1).run pos pins s1 σ H (fun vs H2 => match vs with
      | [v] => H2 F.c = some (LamX.CodeO F.c F.qual) ∧ tb (NdefX.startF N [v] ws) H2 Q
      | _ => False) I1 ht) fun us s2 ⟨vs, H2, I2, r, q⟩ => ⟨(lamAt I2).fn, ?_⟩) h1 hpl
  match vs, r, q with
  | [v], r, ⟨hc, q⟩ =>
    show wpAny _ _ (call (.ref f) us) _ _ _
    have rc := run_lam (CX := CX0) (E := E0) S hb hr I2.env0 (lamAt I2) hc (C.later nf hx I2) r rfl fun hr' => ⟨tb, hbody X.A X.stack s2 H2 hr', q⟩
    refine wpAny_call (codeAny_mono rc fun r s' hq => ?_)
    cases r with
    | error e => exact pass0 pins σ H2 s2 e s' I2 hq
    | ok fl =>
      cases fl with
      | ret u => exact I2.after hq
      | next => exact False.elim hq
      | brk => exact False.elim hq
      | cont => exact False.elim hq
end L3
namespace L3
open PySem L2
open PySem.Spec
/-! ### a dict from nested tuples to ints -/
abbrev NK := NestedKey
abbrev SXs := List (NK × Addr × Int)
inductive ZR : List (NK × Addr × Value) → SXs → Prop
  | nil : ZR [] []
  | cons {k : NK} {a : Addr} {i : Int} (t : Tok) {rs : List (NK × Addr × Value)} {xs : SXs} : ZR rs xs → ZR ((k, a, .int i t) :: rs) ((k, a, i) :: xs)
theorem ZR.length : ∀ {rs : List (NK × Addr × Value)} {xs : SXs}, ZR rs xs → rs.length = xs.length
  | _, _, .nil => rfl
  | _, _, .cons _ h => by rw [List.length_cons, List.length_cons, h.length]
theorem ZR.app {k : NK} {a : Addr} {i : Int} {t : Tok} : ∀ {rs : List (NK × Addr × Value)} {xs : SXs}, ZR rs xs → ZR (rs ++ [(k, a, .int i t)]) (xs ++ [(k, a, i)])
  | _, _, .nil => .cons t .nil
  | _, _, .cons u h => .cons u h.app
def seenAt (xs : SXs) (k : NK) : Option Int := (xs.find? fun x => decide (x.1 = k)).map (·.2.2)
theorem ZR.at_ {k : NK} : ∀ {rs : List (NK × Addr × Value)} {xs : SXs}, ZR rs xs → (seenAt xs k = none ∧ atKey rs k = none) ∨ ∃ i t b, seenAt xs k = some i ∧ atKey rs k = some (b, .int i t)
  | _, _, .nil => .inl ⟨rfl, rfl⟩
  | _, _, @ZR.cons k' a i t rs xs h => by
    by_cases e : k' = k
    · exact .inr ⟨i, t, a, by simp [seenAt, e], by simp [atKey, e]⟩
    · have e1 : seenAt ((k', a, i) :: xs) k = seenAt xs k := by simp [seenAt, e]
      have e2 : atKey ((k', a, Value.int i t) :: rs) k = atKey rs k := by simp [atKey, e]
      rw [e1, e2]
      exact h.at_
def seenB (P : Program) (w : World) (d : Addr) (xs : SXs) (h : Heap) : Prop := ∃ rs, ZR rs xs ∧ ∃ o es ep, h.get? d = some o ∧ o.ExactDict ∧ o.data = .dict es ep ∧ es.toList = rs.map (entryOfKey (nestedKind P w)) ∧ (rs.map (·.1)).Nodup
def SeenO (P : Program) (w : World) (d : Addr) (xs : SXs) : HO := .ext (seenB P w d xs)
theorem seen_ok {P : Program} {w : World} {d : Addr} {xs : SXs} {H : Hp} {h : Heap} (q : seenB P w d xs h) : ObjOk P w H h d (SeenO P w d xs) := by
  refine ⟨q, ?_, fun h1 h2 z st => ?_⟩
  · obtain ⟨_, _, o, _, _, e, _⟩ := q
    exact ⟨o, e⟩
  · obtain ⟨rs, z0, o, es, ep, z1, z2, z3, z4, z5⟩ := z
    exact ⟨rs, z0, o, es, ep, st _ z1, z2, z3, z4, z5⟩
theorem seen_ne {P : Program} {w : World} {d : Addr} {xs : SXs} : ∀ ps, SeenO P w d xs ≠ .tbl ps := fun ps z => by
  unfold SeenO at z
  cases z
def KeysIn (H : Hp) (xs : SXs) : Prop := ∀ x ∈ xs, R3 H (.ref x.2.1) x.1.data ∧ x.1.depth ≤ 8
section
variable {X : Cx} {pins : List (Addr × Obj)} {σ : L2.St} {H : Hp} {s : Shared}
mutual
theorem nest_of (I : Inv X pins σ H s) : ∀ (k : NK) (v : V) (u : Value), R3 H v k.data → RelV v u → NestedIs s.heap k u
  | .none, v, u, h, r => by
    unfold NestedKey.data at h
    cases h
    cases r
    exact .none
  | .num i, v, u, h, r => by
    unfold NestedKey.data at h
    cases h
    obtain ⟨t, rfl⟩ := r
    exact .int _ _
  | .text x, v, u, h, r => by
    unfold NestedKey.data at h
    cases h
    obtain ⟨t, rfl⟩ := r
    exact .text _ _
  | .tup ks, v, u, h, r => by
    unfold NestedKey.data at h
    cases h with
    | @tup a xs _ hx hs =>
      obtain rfl : u = Value.ref a := r
      obtain ⟨its, rv, ⟨o, e1, e2, n, e3⟩, _⟩ := I.tuple (.of hx)
      exact .tup e1 e2 e3 (by simpa using nests_of I ks xs its hs rv)
theorem nests_of (I : Inv X pins σ H s) : ∀ (ks : List NK) (vs : List V) (us : List Value), R3s H vs (NestedKey.datas ks) → Vals vs us → NestedAll s.heap ks us
  | [], vs, us, h, r => by
    unfold NestedKey.datas at h
    cases h
    cases r
    exact .nil
  | k :: ks, vs, us, h, r => by
    unfold NestedKey.datas at h
    cases h with
    | cons h1 h2 =>
      cases r with
      | cons r1 r2 => exact .cons (nest_of I k _ _ h1 r1) (nests_of I ks _ _ h2 r2)
end
theorem key_is {P : Program} {w : World} (I : Inv X pins σ H s) {k : NK} {a : Addr} (h : R3 H (.ref a) k.data) (hd : k.depth ≤ 8) : (nestedKind P w).is s.heap k a := ⟨nest_of I k _ _ h rfl, hd⟩
theorem seen_of (I : Inv X pins σ H s) {d : Addr} {xs : SXs} (h : H d = some (SeenO X.prog X.w d xs)) (hk : KeysIn H xs) : ∃ rs, ZR rs xs ∧ s.heap.DictOfH (nestedKind X.prog X.w) d rs := by
  obtain ⟨⟨rs, z, o, es, ep, h1, h2, h3, h4, h5⟩, _, _⟩ := I.hok d _ h
  refine ⟨rs, z, o, es, ep, h1, h2, h3, h4, ?_, h5⟩
  have all : ∀ {rs : List (NK × Addr × Value)} {xs : SXs}, ZR rs xs → KeysIn H xs → ∀ x ∈ rs, (nestedKind X.prog X.w).is s.heap x.1 x.2.1 := by
    intro rs xs q
    induction q with
    | nil => intro _ x hx; exact nomatch hx
    | @cons k a i t rs xs q ih =>
      intro hk x hx
      rcases List.mem_cons.mp hx with e | hx
      · subst e
        have := hk (k, a, i) List.mem_cons_self
        exact key_is I this.1 this.2
      · exact ih (fun y hy => hk y (List.mem_cons_of_mem _ hy)) x hx
  exact all z hk
/-- d[y], y in d; d[y] = v for a new y -/
def SG (X : Cx) (H : Hp) (x y : V) (xs : SXs) (k : NK) : Prop := ∃ d a, x = .ref d ∧ y = .ref a ∧ (d == sysModules) = false ∧ H d = some (SeenO X.prog X.w d xs) ∧ KeysIn H xs ∧ R3 H (.ref a) k.data ∧ k.depth ≤ 8
def tSGet (X : Cx) (td ty : TE) : TE := fun σ H Q => td σ H fun x H1 => ty σ H1 fun y H2 => ∃ xs k i, SG X H2 x y xs k ∧ seenAt xs k = some i ∧ Q (.int i) H2
def tSIn (X : Cx) (ty td : TE) : TE := fun σ H Q => ty σ H fun y H1 => td σ H1 fun x H2 => ∃ xs k, SG X H2 x y xs k ∧ Q (.bl (seenAt xs k).isSome) H2
def sSPut (X : Cx) (td ty tv : TE) : TS := fun D σ H => tv σ H fun v H1 => td σ H1 fun x H2 => ty σ H2 fun y H3 => ∃ d a xs k i, x = .ref d ∧ y = .ref a ∧ v = .int i ∧ SG X H3 x y xs k ∧ seenAt xs k = none ∧ xs.length < sizeLine ∧ ((∃ h, seenB X.prog X.w d (xs ++ [(k, a, i)]) h) → D.nx σ (upd H3 d (SeenO X.prog X.w d (xs ++ [(k, a, i)]))))
def tSDisp (X : Cx) (tk tv : TE) : TE := fun σ H Q => ∀ p, H p = none → tk σ (upd H p (SeenO X.prog X.w p [])) fun x H1 => tv σ H1 fun y H2 => H2 p = some (SeenO X.prog X.w p []) ∧ ∃ a k i, x = .ref a ∧ y = .int i ∧ R3 H2 (.ref a) k.data ∧ k.depth ≤ 8 ∧ ((p == sysModules) = false → (∃ h, seenB X.prog X.w p [(k, a, i)] h) → Q (.ref p) (upd H2 p (SeenO X.prog X.w p [(k, a, i)])))
end
section
variable {X : Cx} {o i e value : Expr} {pos pos' : Pos} {td ty tv tk : TE}
theorem pe_sget (hu : X.A.units + 9 < cLine) (ho : PE X o td) (hi : PE X i ty) (hs : NoSl i) : PE X (.Subscript o i pos) (tSGet X td ty) := by
  refine ⟨fun pins s σ H Q I h => ?_⟩
  refine subD_of PySem.F.slot_dict_getitem.lookup hs (thn (ho.run pins s σ H _ I h) fun u s1 ⟨x, H1, I1, rx, q1⟩ => thn (hi.run pins s1 σ H1 _ I1 q1) fun iv s2 ⟨y, H2, I2, ry, xs, k, n, g, ev, q2⟩ => ?_)
  obtain ⟨d, a, rfl, rfl, hd, hH, hk, hr, hdep⟩ := g
  obtain rfl : u = Value.ref d := rx
  obtain rfl : iv = Value.ref a := ry
  obtain ⟨rs, z, dd⟩ := seen_of I2 hH hk
  rcases z.at_ (k := k) with ⟨e1, e2⟩ | ⟨i', t, b, e1, e2⟩
  · rw [ev] at e1
    cases e1
  · rw [ev] at e1
    cases e1
    exact ⟨dd.typeIs, wpAny_getItem_heap (knd := nestedKind X.prog X.w) (show X.A.in1.units + 8 < cLine from hu) (key_is I2 hr hdep) dd e2 ⟨.int n, H2, I2.tok _, ⟨t, rfl⟩, q2⟩⟩
theorem pc_sin (hu : X.A.units + 9 < cLine) (hi : PE X i ty) (ho : PE X o td) : PC X .In i o (tSIn X ty td) := by
  refine ⟨fun pins s σ H Q I h => ?_⟩
  refine thn (hi.run pins s σ H _ I h) fun iv s1 ⟨y, H1, I1, ry, q1⟩ => thn (ho.run pins s1 σ H1 _ I1 q1) fun u s2 ⟨x, H2, I2, rx, xs, k, g, q2⟩ => ?_
  obtain ⟨d, a, rfl, rfl, hd, hH, hk, hr, hdep⟩ := g
  obtain rfl : u = Value.ref d := rx
  obtain rfl : iv = Value.ref a := ry
  obtain ⟨rs, z, dd⟩ := seen_of I2 hH hk
  refine wpAny_in_heap (knd := nestedKind X.prog X.w) (show X.A.in1.units + 8 < cLine from hu) (key_is I2 hr hdep) hd dd ?_
  have e : (atKey rs k).isSome = (seenAt xs k).isSome := by
    rcases z.at_ (k := k) with ⟨e1, e2⟩ | ⟨i', t, b, e1, e2⟩ <;> rw [e1, e2] <;> rfl
  rw [e]
  exact ⟨.bl (seenAt xs k).isSome, H2, I2.tok _, rfl, q2⟩
theorem ps_sput (hu : X.A.units + 9 < cLine) (ho : PE X o td) (hi : PE X i ty) (hv : PE X value tv) (hs : swapsWith value (some (.Subscript o i pos')) pos.line X.env = pure false) :
    PS X (.Assign [.Subscript o i pos'] value pos) (sSPut X td ty tv) := by
  refine ⟨fun pins s σ H D I h => ?_⟩
  refine wpAny_Assign_Subscript (thn (hv.run pins s σ H _ I h) fun r s1 ⟨v, H1, I1, rv, q1⟩ => thn (ho.run pins s1 σ H1 _ I1 q1) fun u s2 ⟨x, H2, I2, rx, q2⟩ => thn (hi.run pins s2 σ H2 _ I2 q2) fun iv s3 ⟨y, H3, I3, ry, d, a, xs, k, n, e1, e2, e3, g, ev, hl, q3⟩ => ?_) hs
  subst e1 e2 e3
  obtain ⟨_, _, ed, ea, hd, hH, hk, hr, hdep⟩ := g
  cases ed
  cases ea
  obtain rfl : u = Value.ref d := rx
  obtain rfl : iv = Value.ref a := ry
  obtain ⟨t, rfl⟩ := rv
  obtain ⟨rs, z, dd⟩ := seen_of I3 hH hk
  have hno : atKey rs k = none := by
    rcases z.at_ (k := k) with ⟨e1, e2⟩ | ⟨i', t, b, e1, e2⟩
    · exact e2
    · rw [ev] at e1
      cases e1
  refine wpAny_setItem_heap (hsz := by rw [z.length]; exact Nat.le_of_lt hl) (knd := nestedKind X.prog X.w) (show X.A.in1.units + 8 < cLine from hu) (key_is I3 hr hdep) dd fun h' dd' hsb => ?_
  rw [storedH_new hno] at dd'
  obtain ⟨q, es, ep, hq, h2, h3, h4, _, h5⟩ := dd'
  have sb : seenB X.prog X.w d (xs ++ [(k, a, n)]) h' := ⟨_, z.app, q, es, ep, hq, h2, h3, h4, h5⟩
  exact ⟨σ, _, d_write I3 (by rw [hH]; exact True.intro) hsb ⟨q, hq⟩ (seen_ok sb), q3 ⟨h', sb⟩⟩
theorem pe_sdisp {k v : Expr} (hu : X.A.units + 9 < cLine) (hk : PE X k tk) (hv : PE X v tv) : PE X (.Dict [some k] [v] pos) (tSDisp X tk tv) := by
  refine ⟨fun pins s σ H Q I q => ?_⟩
  have hn := I.hok.fresh (Nat.le_refl s.heap.objs.size)
  have new0 : (s.heap.push { cls := .type "dict", data := .dict #[] }).DictOfH (nestedKind X.prog X.w) s.heap.objs.size [] := Heap.DictOfH.new s.heap
  have I1 : Inv X pins σ (upd H s.heap.objs.size (SeenO X.prog X.w s.heap.objs.size [])) { s with heap := s.heap.push { cls := .type "dict", data := .dict #[] }, toks := s.toks } := I.laid (a := s.heap.objs.size) (fun _ _ q => Heap.get?_push_of_some _ q) (Nat.le_refl _) (seen_ok (by
    obtain ⟨o, es, ep, h1, h2, h3, h4, _, h5⟩ := new0
    exact ⟨[], .nil, o, es, ep, h1, h2, h3, h4, h5⟩))
  refine wpAny_Dict_any rfl rfl (fun z => nomatch z) (show 1 ≤ 15 by decide) ?_
  refine pairTrees_cons_walk (thn (hk.run pins _ σ _ _ I1 (q _ hn)) fun u s1 ⟨x, H1, I2, rx, q1⟩ => thn (hv.run pins s1 σ H1 _ I2 q1) fun u2 s2 ⟨y, H2, I3, ry, hH, a, kk, n, e1, e2, hr, hd, q2⟩ => pairTrees_nil_walk ?_)
  subst e1 e2
  obtain rfl : u = Value.ref a := rx
  obtain ⟨t, rfl⟩ := ry
  obtain ⟨rs, z, dd⟩ := seen_of I3 hH (fun x hx => nomatch hx)
  cases z
  have hne : (s.heap.objs.size == sysModules) = false := by
    have := I.big
    exact beq_eq_false_iff_ne.mpr (Nat.ne_of_gt this)
  unfold storeAll
  refine wpAny_storeAllH (knd := nestedKind X.prog X.w) (show X.A.units + 8 < cLine by omega) _ [(kk, a, .int n t)] [] _ _ ⟨rfl, rfl, key_is I3 hr hd, True.intro⟩ dd (show 0 + 1 ≤ sizeLine by rw [sizeLine_eq]; decide) fun h' tk' dd' hsb => ?_
  obtain ⟨o, es, ep, h1, h2, h3, h4, his, h5⟩ := dd'
  have sb : seenB X.prog X.w s.heap.objs.size [(kk, a, n)] h' := ⟨[(kk, a, .int n t)], .cons t .nil, o, es, ep, h1, h2, h3, h4, h5⟩
  exact ⟨.ref s.heap.objs.size, _, d_write I3 (by rw [hH]; exact True.intro) hsb ⟨o, h1⟩ (seen_ok sb), rfl, q2 hne ⟨h', sb⟩⟩
theorem seen_code {P : Program} {w : World} {d c : Addr} {xs : SXs} {q : Str} (h : ∃ h, seenB P w d xs h) : SeenO P w d xs ≠ LamX.CodeO d q := fun z => by
  obtain ⟨h, sb⟩ := h
  unfold SeenO LamX.CodeO at z
  have e := HO.ext.inj z
  have := (congrFun e h) ▸ sb
  obtain ⟨oc, vs, t, h1, h2, h3⟩ := this
  obtain ⟨rs, _, o, es, ep, k1, _, k3, _⟩ := sb
  rw [h1] at k1
  cases k1
  rw [h2] at k3
  cases k3
end
end L3
namespace L3
open PySem L2
open PySem.Spec
open LamX (TabB Tabs CodeO codeO_ne)
abbrev noM : Msk := fun _ => False
/-! ### a lambda is made: all that was tracked stays, the table grows -/
section
variable {X : Cx} {pins : List (Addr × Obj)} {σ : L2.St} {H : Hp} {s : Shared}
theorem lam_mk {T : List (Addr × Str)} {c P : Addr} {params : Arguments} {body : Expr} {scope : Scope} {pos : Pos} {E : Value → Shared → Prop} {Q : Value → Shared → Prop} (I : Inv X pins σ H s) (TB : TabB X.base X.mg c P) (hcode : X.env.code = .ref c)
    (hm : (P, X.env.qual ++ "<lambda>") ∈ T) (hu : ∀ p ∈ T, p.1 = P → p.2 = X.env.qual ++ "<lambda>") (hT : Tabs T H) (hdef : defaultsOf params X.env = ([], [])) (hfree : ∀ y ∈ scope.names, y.2 = .free → ∃ c, X.env.cells.lookup y.1 = some c)
    (h : ∀ (f c' : Addr) (H1 : Hp) (s' : Shared), Inv X pins σ H1 s' → GoN noM H H1 → Tabs T H1 → LamAt ⟨X.env.qual ++ "<lambda>", params, body, scope, cloFrom X.env.cells scope.names [], c'⟩ f s'.heap → H1 f = none → f ∉ frs X.stack → H1 c' = some (CodeO c' (X.env.qual ++ "<lambda>")) → Q (.ref f) s') :
    wpAny (model X.prog X.w) X.A (eval (.Lambda params body scope pos) X.env) Q E s := by
  obtain ⟨ps, hP, ht, ha⟩ := hT _ hm
  have bP : s.heap.BuiltinsAt X.mg P := TB.bm.keeps I.bk
  have hP' : s.heap.get? P = some { cls := .none, data := .fields ps } := I.hok P _ hP
  have far : ∀ f, s.heap.objs.size ≤ f → f ∉ frs X.stack := fun f hf z => by
    rcases List.mem_cons.mp (I.stkSub _ z) with e | e
    · exact absurd (e ▸ I.lt) (Nat.not_lt.mpr hf)
    · exact I.nofs hf e
  refine PySem.W.kla_eval hdef ?_
  rcases hc : codeAmong pos ps.toList with _ | cv
  · refine PySem.W.kla_makeFunction (mg := X.mg) (c := c) (P := P) (ps := ps) (closure_ok hfree) I.ok.glob (I.mod.glob.keeps I.bk) hcode (TB.code.keeps I.bk) hP' ht hc TB.gP bP fun c' ctv h' tk hx hge hlt hrec htb => ?_
    obtain ⟨_, oc, vs, t, e2, hoc, hd, hv⟩ := hrec
    cases e2
    have nC : H c' = none := I.hok.fresh hge
    have nPc : P ≠ c' := ne_of_none hP nC
    have up : ∀ b o, h'.get? b = some o → (h'.push (PySem.W.kla_obj "<lambda>" (X.env.qual ++ "<lambda>") params body scope (cloFrom X.env.cells scope.names []) ((X.mg "__name__").getD .none) c' ctv)).get? b = some o := fun b o e => Heap.get?_push_of_some _ e
    have J := LamX.inv_table (t' := tk) (more := #[rawInt pos.line, rawInt pos.col, .ref c']) I hP (fun b o hb e => up b o (hx b o hb e)) (up _ _ htb) hge ⟨oc, vs, t, up _ _ hoc, hd, hv⟩
    have other : ∀ b, b ≠ P → b ≠ c' → upd (upd H P (.tbl (ps ++ #[rawInt pos.line, rawInt pos.col, .ref c']))) c' (CodeO c' (X.env.qual ++ "<lambda>")) b = H b := fun b h1 h2 => by rw [upd_ne h2, upd_ne h1]
    have atP : upd (upd H P (.tbl (ps ++ #[rawInt pos.line, rawInt pos.col, .ref c']))) c' (CodeO c' (X.env.qual ++ "<lambda>")) P = some (.tbl (ps ++ #[rawInt pos.line, rawInt pos.col, .ref c'])) := by rw [upd_ne nPc, upd_same]
    have go : GoN noM H (upd (upd H P (.tbl (ps ++ #[rawInt pos.line, rawInt pos.col, .ref c']))) c' (CodeO c' (X.env.qual ++ "<lambda>"))) := fun b o e _ => by
      by_cases hb : b = P
      · subst hb
        rw [hP] at e
        cases e
        exact .inr ⟨_, _, rfl, atP⟩
      · rw [other b hb (ne_of_none e nC)]
        exact .inl e
    have code : ∀ c0 q, H c0 = some (CodeO c0 q) → upd (upd H P (.tbl (ps ++ #[rawInt pos.line, rawInt pos.col, .ref c']))) c' (CodeO c' (X.env.qual ++ "<lambda>")) c0 = some (CodeO c0 q) := fun c0 q e => go.keep e (fun z => z) codeO_ne
    refine h h'.objs.size c' _ _ J go (fun p hp => ?_) ⟨_, ctv, Heap.get?_push_size _ rfl⟩ ?_ (far _ (Nat.le_trans hge (Nat.le_of_lt hlt))) upd_same
    · by_cases hb : p.1 = P
      · rw [hu p hp hb, hb]
        have eL : (ps ++ #[rawInt pos.line, rawInt pos.col, .ref c']).toList = ps.toList ++ [rawInt pos.line, rawInt pos.col, .ref c'] := by simp
        refine ⟨_, atP, by rw [eL]; exact PySem.TriplesOk_snoc _ _ _ _ ht, fun p' cv hcv => ?_⟩
        rw [eL] at hcv
        rcases LamX.among_app _ ht hcv with z | z
        · obtain ⟨c0, e1, e2⟩ := ha p' cv z
          exact ⟨c0, e1, code _ _ e2⟩
        · exact ⟨c', z, upd_same⟩
      · obtain ⟨ps', a1, a2, a3⟩ := hT p hp
        refine ⟨ps', by rw [other _ hb (ne_of_none a1 nC)]; exact a1, a2, fun p' cv hcv => ?_⟩
        obtain ⟨c0, e1, e2⟩ := a3 p' cv hcv
        exact ⟨c0, e1, code _ _ e2⟩
    · rw [other _ (Nat.ne_of_gt (Nat.lt_of_lt_of_le (Heap.lt_size hP') (Nat.le_trans hge (Nat.le_of_lt hlt)))) (Nat.ne_of_gt hlt)]
      exact I.hok.fresh (Nat.le_trans hge (Nat.le_of_lt hlt))
  · obtain ⟨c', e, hco⟩ := ha pos cv hc
    subst e
    refine PySem.W.kla_makeFunctionHit (mg := X.mg) (c := c) (P := P) (ps := ps) (closure_ok hfree) I.ok.glob (I.mod.glob.keeps I.bk) hcode (TB.code.keeps I.bk) hP' ht hc bP fun ctv h' tk hx hsz => ?_
    have J : Inv X pins σ H { s with heap := h'.push (PySem.W.kla_obj "<lambda>" (X.env.qual ++ "<lambda>") params body scope (cloFrom X.env.cells scope.names []) ((X.mg "__name__").getD .none) c' ctv), toks := tk } := I.kept fun b o e => Heap.get?_push_of_some _ (hx b o e)
    exact h h'.objs.size c' H _ J GoN.refl hT ⟨_, ctv, Heap.get?_push_size _ rfl⟩ (I.hok.fresh hsz) (far _ hsz) hco
end
end L3
namespace L3
open PySem L2
open PySem.Spec
/-! ### defs that get the deck -/
def envD (N : List Str) (dk : Addr × Addr) (ds : List PyData) : Env3 := .val (.ref dk.1) :: (ds.map Cell.dat ++ List.replicate (N.length - 1 - ds.length) .un)
theorem fnD_run {T : List (Addr × Str)} {names : List Str} {t : TS} {τ : Addr × Addr → TSd} {φ : Phi} {p : Addr × Addr} (hn : 1 ≤ names.length) (h : SndS ⟨T, some p⟩ t (τ p)) (hφ : ∀ ds QD, φ ds QD → τ p { nx := fun _ => QD .none, rt := QD } (envD names p ds)) {us : List V} {H : Hp} {Q : VK} {N : Msk} {ds : List PyData} {QD : PyData → Prop}
    (m : Mok ⟨T, some p⟩ N H) (g : Glob ⟨T, some p⟩ H) (r : R3s (wo H N) us ds) (q : φ ds QD) (hQ : ∀ v H' d, QD d → Go ⟨T, some p⟩ H H' → Glob ⟨T, some p⟩ H' → R3 (wo H' N) v d → Q v H') :
    t { nx := fun _ H' => Q .non H', rt := Q } (L2.start names (.ref p.1 :: us)) H := by
  have hl := r3s_len r
  have e0 : ∀ a, mkN N (fun _ => none) a → N a := fun a z => z.elim id fun ⟨_, z⟩ => nomatch z
  have env : EnvA ⟨T, some p⟩ (mkN N fun _ => none) (fun _ => none) H (L2.start names (.ref p.1 :: us)) (envD names p ds) := by
    refine ⟨⟨fun a w => .inl (m.sub a w), fun a n => m.dom a (e0 a n)⟩, g, ?_, fun i c hc => ?_, (fun i a z => nomatch z), (fun i j a z => nomatch z)⟩
    · unfold envD L2.start
      simp [hl]
      omega
    · unfold envD at hc
      unfold L2.start
      cases i with
      | zero =>
        cases hc
        rfl
      | succ i =>
        rw [List.getElem?_cons_succ] at hc
        by_cases hi : i < ds.length
        · rw [List.getElem?_append_left (by rw [List.length_map]; exact hi), List.getElem?_map, List.getElem?_eq_getElem hi] at hc
          have e : Cell.dat ds[i] = c := Option.some.inj hc
          obtain ⟨v, h1, h2⟩ := r3s_get r (List.getElem?_eq_getElem hi)
          subst e
          refine ⟨v, ?_, r3_sub (sub_less e0) _ _ h2⟩
          rw [List.map_cons, List.cons_append, List.getElem?_cons_succ, List.getElem?_append_left (by rw [List.length_map, hl]; exact hi), List.getElem?_map, h1]
          rfl
        · rw [List.getElem?_append_right (by rw [List.length_map]; omega), List.getElem?_replicate] at hc
          split at hc
          · have e : Cell.un = c := Option.some.inj hc
            subst e
            trivial
          · cases hc
  refine h N [(H, C3.W ⟨T, some p⟩)] H _ _ _ _ m.sub ⟨_, env, (fun i a z => nomatch z), fun b hb => ?_⟩ ⟨fun σ' H' ρ' ⟨am, s⟩ q' => ?_, fun v H' d q' b g' m' r' => hQ v H' d q' (b (H, C3.W ⟨T, some p⟩) (by simp)) g' r', fun _ _ _ _ z => False.elim z, fun _ _ _ _ z => False.elim z⟩ (hφ ds QD q)
  · have e : b = (H, C3.W ⟨T, some p⟩) := by simpa using hb
    subst e
    exact ⟨GoN.refl, fun _ w => w, (fun i a z => nomatch z)⟩
  · exact hQ .non H' .none q' (s.base (H, C3.W ⟨T, some p⟩) (by simp)).1 s.env.glob .non
theorem spD_len {T : List (Addr × Str)} {φ : Phi} {n : Nat} (h : ∀ ds QD, φ ds QD → ds.length + 1 = n) (vs : List V) (H : Hp) (Q : VK) (E : XK) (hsp : spD T φ vs H Q E) : vs.length = n := by
  obtain ⟨p, us, N, ds, QD, rfl, m, g, r, q, hQ⟩ := hsp
  rw [List.length_cons, r3s_len r, h ds QD q]
section
variable {P : Program} {w : World} {K : PySem.W.Frag} {mg : Str → Option Value} {base : Heap}
theorem fnD {T : List (Addr × Str)} {x qual : Str} {st : Stmt} {f : Addr} {fd : FuncData} {names ps : List Str} {k : Nat} {φ : Phi} (F : Fun K x qual st f fd) (S : FnScope names ps (defScope st)) (len : ∀ ds QD, φ ds QD → ds.length + 1 = ps.length)
    (body : ∀ (dk : Addr × Addr) (cdv : Value) (A : Around) (outer : List Env) (s : Shared) (H : Hp) (E : XK), Room k (A.deeper (PyProof.Rows.envOfC qual (defScope st) s.heap.objs.size f cdv)) →
      ∃ t τ, PDSs (cxOf CX0 P w K mg base names qual (defScope st) f cdv A outer s H E).nox ⟨T, some dk⟩ (defBody st) t τ ∧ ∀ ds QD, φ ds QD → τ { nx := fun _ => QD .none, rt := QD } (envD names dk ds)) (hn : 1 ≤ names.length := by decide) : FnOk P w K mg base CX0 (k + 1) f fd ps (spD T φ) := by
  refine F.ok S (spD_len len) fun cdv A outer s H vs Q E hr hsp => ?_
  obtain ⟨p, us, N, ds, QD, rfl, m, g, r, q, hQ⟩ := hsp
  obtain ⟨t, τ, h, hφ⟩ := body p cdv A outer s H E hr
  exact ⟨t, h.ps, fnD_run (τ := fun _ => τ) hn h.snd hφ m g r q hQ⟩
/-! ### defs under no guard -/
/-- as FnOk, where the guards are none -/
structure FnG (P : Program) (w : World) (K : PySem.W.Frag) (mg : Str → Option Value) (base : Heap) (k : Nat) (f : Addr) (fd : FuncData) (ps : List Str) (sp : Sp) : Prop where
  len : ∀ vs H Q E, sp vs H Q E → vs.length = ps.length
  run : ∀ (A : Around) (outer : List Env) (s : Shared) (H : Hp) (args : Args) (us : List Value) (vs : List V) (Q : VK) (E : XK), A.guards = some [] → Room k A → Env0 P w K mg base A outer s H → BindsTo s fd args (ps.zip us) → Vals vs us → sp vs H Q E →
    codeAny (model P w) A (.call (.ref f) args) (CR CX0 outer P w H s Q E) s
def HasG (P : Program) (w : World) (K : PySem.W.Frag) (mg : Str → Option Value) (base : Heap) (x : Str) (k : Nat) (ps : List Str) (sp : Sp) : Prop :=
  ∃ (f : Addr) (fd : FuncData), FnG P w K mg base k f fd ps sp ∧ mg x = some (.ref f) ∧ PySem.W.keepIn K (.ref f) = true ∧ Binds K fd ps []
theorem fnG_of {x qual : Str} {st : Stmt} {f : Addr} {fd : FuncData} {N ps : List Str} {k : Nat} {sp : Sp} (F : Fun K x qual st f fd) (S : FnScope N ps (defScope st)) (len : ∀ vs H Q E, sp vs H Q E → vs.length = ps.length)
    (hbody : ∀ (cdv : Value) (A : Around) (outer : List Env) (s : Shared) (H : Hp) (vs : List V) (Q : VK) (E : XK), A.guards = some [] → Room k (A.deeper (PyProof.Rows.envOfC qual (defScope st) s.heap.objs.size f cdv)) → sp vs H Q E →
      ∃ t, PSs (cxOf CX0 P w K mg base N qual (defScope st) f cdv A outer s H E).nox (defBody st) t ∧ t { nx := fun _ H' => Q .non H', rt := Q } (L2.start N vs) H) : FnG P w K mg base (k + 1) f fd ps sp := by
  obtain ⟨oc, od, kV, doc, pm, an, cdv, ct, osl, rfl, lk, hcd⟩ := F.ex
  refine ⟨len, fun A outer s H args us vs Q E hg hr e0 hb r hsp => LamX.run_ofS lk hcd S hr e0 hb r (len _ _ _ _ hsp) fun hr' => ?_⟩
  obtain ⟨t, h, q⟩ := hbody cdv A outer s H vs Q E hg hr' hsp
  exact ⟨t, h.nox, q⟩
theorem fnG3 {C : C3} {x qual : Str} {st : Stmt} {f : Addr} {fd : FuncData} {names ps : List Str} {k : Nat} {φ : Phi} (F : Fun K x qual st f fd) (S : FnScope names ps (defScope st)) (len : ∀ ds QD, φ ds QD → ds.length = ps.length)
    (body : ∀ (cdv : Value) (A : Around) (outer : List Env) (s : Shared) (H : Hp) (E : XK), A.guards = some [] → Room k (A.deeper (PyProof.Rows.envOfC qual (defScope st) s.heap.objs.size f cdv)) →
      ∃ t τ, PDSs (cxOf CX0 P w K mg base names qual (defScope st) f cdv A outer s H E).nox C (defBody st) t τ ∧ ∀ ds QD, φ ds QD → τ { nx := fun _ => QD .none, rt := QD } (env0 names ds)) : FnG P w K mg base (k + 1) f fd ps (sp3 C φ) := by
  refine fnG_of F S (sp3_len len) fun cdv A outer s H vs Q E hg hr hsp => ?_
  obtain ⟨t, τ, h, hφ⟩ := body cdv A outer s H E hg hr
  exact ⟨t, h.ps, fn3_run h.snd hφ hsp⟩
end
abbrev HasGX (X : Cx) := HasG X.prog X.w X.K X.mg X.base
section
variable {X : Cx} {C : C3} {pos p : Pos} {x : Str} {k : Nat} {ps : List Str} {φ : Phi} {e : Expr} {es : List Expr} {t : TA} {τ : TAd}
theorem pe_callG {f : Addr} {fd : FuncData} {sp : Sp} (F : FnG X.prog X.w X.K X.mg X.base k f fd ps sp) (hr : Room k X.A) (hG : X.A.guards = some []) (hg : Gl X x) (hm : X.mg x = some (.ref f)) (hk : PySem.W.keepIn X.K (.ref f) = true) (hb : Binds X.K fd ps [])
    (ha : PA X (e :: es) t) (hdb : (x == ("__debug__" : Str)) = false := by decide) (he : starEach (e :: es) X.env = (false, eval e X.env) :: starEach es X.env := by rfl) (hpl : (backTo pos (starEach es X.env)).any (·.1) = false := by rfl) :
    PE X (.Call (.Name x p) (e :: es) [] pos) (tCall sp [] E0 t) := by
  refine ⟨fun pins s σ H Q I h => ?_⟩
  refine wpAny_Call_Name_kw (ld_glob I hg hm ?_ hdb)
  refine PySem.W.callWith_K (h₀ := X.base) I.ok.mod.kin hk (thn (ha.run pos pins s σ H _ I h) fun us s1 ⟨vs, H1, I1, r, q0⟩ => ⟨I1.kIn, ?_⟩) he hpl
  have q : sp (vs ++ []) H1 Q E0 := q0
  have hl : (us ++ ([] : List Value)).length = ps.length := by
    have := F.len _ _ _ _ q
    rw [List.append_nil] at this ⊢
    rw [← r.length]
    exact this
  have hq := hb s1 us I1.kIn hl
  rw [List.append_nil] at hq q
  refine wpAny_call (codeAny_mono (F.run X.A X.stack s1 H1 ⟨us, []⟩ us vs Q E0 hG hr I1.env0 hq r q) fun r s' hq => ?_)
  cases r with
  | error e => exact pass0 pins σ H1 s1 e s' I1 hq
  | ok fl =>
    cases fl with
    | ret u => exact I1.after hq
    | next => exact False.elim hq
    | brk => exact False.elim hq
    | cont => exact False.elim hq
theorem q_callG (h : HasGX X x k ps (sp3 C.off φ)) (hr : Room k X.A) (hG : X.A.guards = some []) (ha : PDA X C (e :: es) t τ) (hg : Gl X x := by rfl) (hdb : (x == ("__debug__" : Str)) = false := by decide) (he : starEach (e :: es) X.env = (false, eval e X.env) :: starEach es X.env := by rfl) (hpl : (backTo pos (starEach es X.env)).any (·.1) = false := by rfl) :
    PDE X C (.Call (.Name x p) (e :: es) [] pos) (tCall (sp3 C.off φ) [] E0 t) (dCB φ τ) := by
  obtain ⟨f, fd, F, hm, hk, hb⟩ := h
  exact ⟨pe_callG F hr hG hg hm hk hb ha.pa hdb he hpl, snd_cb (r := fun vs H Q => sp3 C.off φ (vs ++ []) H Q E0) lift_sp3 ha.snd⟩
end
end L3
namespace L3
open PySem L2
open PySem.Spec
/-! ### repr of a tuple; texts compared -/
/-- what repr asks of the data -/
def ShowOk (d : PyData) : Prop := d.showable = true ∧ d.hasDict = false ∧ d.depth ≤ 20 ∧ d.shown.length ≤ sizeLine ∧ ∃ xs, d = .tuple xs
def rReprD (K : PySem.W.Frag) : List V → Hp → VK → Prop := fun xs H Q => ∃ v d, xs = [v] ∧ Dp K H v d ∧ ShowOk d ∧ Q (.str d.shown) H
theorem call_reprD {X : Cx} (hu : X.A.units + 65 < cLine) (hg : X.A.guards = some []) : CallR X (.builtin "repr") (rReprD X.K) := by
  intro pins s σ H xs us Q I rv h
  obtain ⟨v, d, rfl, hd, ⟨h1, h2, h3, h4, ds, rfl⟩, q⟩ := h
  obtain ⟨u, rfl, ru⟩ := vals1 rv
  obtain ⟨as, r⟩ := Dp.reads I _ v u hd ru
  obtain ⟨a, rfl⟩ : ∃ a, v = .ref a := by
    cases hd
    exact ⟨_, rfl⟩
  obtain rfl : u = Value.ref a := ru
  exact repr_of_reads' r h1 (PyData.noDict_hsm h2) hg (by omega) (fun _ _ e => e) (fun h' u tk hk => ⟨.str _, H, I.kept hk, ⟨u, rfl⟩, q⟩) h4
def dRepr : List PyData → (PyData → Prop) → Prop := fun ds Q => ∃ d, ds = [d] ∧ ShowOk d ∧ Q (.str d.shown)
section
variable {X : Cx} {C : C3} {e : Expr} {te : TE} {τ : TD} {pos p : Pos}
theorem l_repr {K : PySem.W.Frag} : LiftA C (rReprD K) dRepr := fun N H xs ds QD Q m g r q hQ => by
  obtain ⟨d, rfl, h, q⟩ := q
  cases r with
  | cons r1 r2 =>
    cases r2
    exact ⟨_, d, rfl, r3_dp _ _ (r3_sub sub_all _ _ r1), h, hQ _ H _ q GoN.refl g (.str _)⟩
theorem q_repr (hu : X.A.units + 65 < cLine) (hG : X.A.guards = some []) (hm : X.mg "repr" = none) (he : PDE X C e te τ) (hg : Gl X "repr" := by rfl) (h1 : starEach [e] X.env = (false, eval e X.env) :: starEach [] X.env := by rfl) (hpl : (backTo pos (starEach [] X.env)).any (·.1) = false := by rfl) :
    PDE X C (.Call (.Name "repr" p) [e] [] pos) (tCB (rReprD X.K) (tCons te tNil)) (dCB dRepr (dCons τ dNil)) := q_cb (call_reprD hu hG) l_repr hg hm bt_repr ⟨pa_cons he.pe pa_nil h1, snd_cons he.snd snd_nil⟩ (by decide) (by decide) h1 hpl
theorem l_neS : Lift2 C rNe (fun d e Q => ∃ s t, d = .str s ∧ e = .str t ∧ Q (.bool (!decide (s = t)))) := fun N H x y d e QD Q m gl rx ry q hQ => by
  obtain ⟨i, j, rfl, rfl, q⟩ := q
  cases rx
  cases ry
  have e1 : decide ((V.str i) = V.str j) = decide (i = j) := by
    by_cases h : i = j
    · subst h; simp
    · rw [decide_eq_false h, decide_eq_false fun z => h (V.str.inj z)]
  exact ⟨rfl, by rw [e1]; exact hQ _ H _ q GoN.refl gl (.bl _)⟩
end
end L3
/-! Webs, books, gardens, rows, addresses as plain data, and as Python's. -/
namespace L3
open PySem
abbrev Tie := Nat × Nat × Nat
abbrev Web := Nat × List Tie
abbrev Book := List Web
abbrev Gar := Web × Book
abbrev Row := List Nat
abbrev Adr := Row × Nat
def eN (n : Nat) : PyData := .int (n : Int)
def eTie (t : Tie) : PyData := .tuple [eN t.1, eN t.2.1, eN t.2.2]
def eTies (ts : List Tie) : PyData := .tuple (ts.map eTie)
def eWeb (w : Web) : PyData := .tuple [eN w.1, eTies w.2]
def eBook (b : Book) : PyData := .tuple (b.map eWeb)
def eGar (g : Gar) : PyData := .tuple [eWeb g.1, eBook g.2]
def eRow (r : Row) : PyData := .tuple (r.map eN)
def eAdr (a : Adr) : PyData := .tuple [eRow a.1, eN a.2]
def ePair (p : Tie × Row) : PyData := .tuple [eTie p.1, eRow p.2]
/-- a tie and its row as one tuple of four -/
def eT4 (p : Tie × Row) : PyData := .tuple [eN p.1.1, eN p.1.2.1, eN p.1.2.2, eRow p.2]
/-! order -/
def Srt (ts : List Tie) : Prop := ts.Pairwise fun s t => leD (eTie s) (eTie t) = true
structure TieOk (n : Nat) (t : Tie) : Prop where
  a : t.1 < n
  b : t.2.1 < n
  ne : t.1 ≠ t.2.1
  c : t.2.2 < 3
structure WebOk (w : Web) : Prop where
  pos : 1 ≤ w.1
  small : w.1 ≤ 400
  ties : ∀ t ∈ w.2, TieOk w.1 t
  srt : Srt w.2
  few : w.2.length ≤ 600
def Below (w : Web) (k : Nat) : Prop := ∀ t ∈ w.2, t.2.2 < k
structure BookOk (b : Book) : Prop where
  pos : 1 ≤ b.length
  few : b.length ≤ 3
  webs : ∀ w ∈ b, WebOk w ∧ 2 ≤ w.1 ∧ Below w b.length
structure GarOk (g : Gar) : Prop where
  start : WebOk g.1
  tiny : g.1.1 ≤ 7 ∧ g.1.2.length ≤ 10
  book : BookOk g.2
  below : Below g.1 g.2.length
end L3
/-! The encodings: alike, told apart, laid, sorted. -/
namespace L3
open PySem PySem.W
theorem leD_total : TotalLe leD := sortLe_total (PyProof.Rows.listOrd PyProof.Rows.itemOrd) false fun d => keyToks d
theorem leD_anti {a b : PyData} (h1 : leD a b = true) (h2 : leD b a = true) : keyToks a = keyToks b := by
  have e1 : (!dataLt b a) = true := h1
  have e2 : (!dataLt a b) = true := h2
  rw [Bool.not_eq_true'] at e1 e2
  exact PyProof.Rows.lex_total _ _ e2 e1
def Pre {α : Type} (e : α → PyData) : Prop := ∀ a b l m, keyToks (e a) ++ l = keyToks (e b) ++ m → a = b ∧ l = m
structure EncOk {α : Type} (e : α → PyData) : Prop where
  al : ∀ a b, alike (e a) (e b) = true
  pre : Pre e
  lay : ∀ a, (e a).canLay0 = true
  dep : ∀ a, (e a).depth ≤ 8
theorem EncOk.inj {α : Type} {e : α → PyData} (h : EncOk e) {a b : α} (q : keyToks (e a) = keyToks (e b)) : a = b := (h.pre a b [] [] (by rw [q])).1
theorem EncOk.inj2 {α : Type} {e : α → PyData} (h : EncOk e) {a b : α} (q : e a = e b) : a = b := h.inj (by rw [q])
theorem EncOk.eqv_self {α : Type} {e : α → PyData} (h : EncOk e) (a : α) : PyData.eqv (e a) (e a) = true := SeqAt.eqv_refl _ (h.lay a)
theorem EncOk.eqv {α : Type} [DecidableEq α] {e : α → PyData} (h : EncOk e) (a b : α) : PyData.eqv (e a) (e b) = decide (a = b) := by
  by_cases q : a = b
  · subst q
    rw [h.eqv_self]
    simp
  · cases z : PyData.eqv (e a) (e b) with
    | true => exact absurd (h.inj ((toks_eqv _ _ (h.al a b)).1 z)) q
    | false => simp [q]
theorem EncOk.shaped {α : Type} {e : α → PyData} (h : EncOk e) (a : α) : SeqAt.shaped (e a) = true := by
  unfold SeqAt.shaped
  rw [h.lay a, Bool.true_and, decide_eq_true_eq]
  exact Nat.le_trans (h.dep a) (by decide)
/-! lists and tuples of many -/
section
variable {α : Type} {e : α → PyData}
theorem alAll_map (h : ∀ a b, alike (e a) (e b) = true) : ∀ xs ys : List α, alikeAll (xs.map e) (ys.map e) = true
  | [], _ => by simp [alikeAll]
  | _ :: _, [] => by simp [alikeAll]
  | x :: xs, y :: ys => by
    rw [List.map_cons, List.map_cons, alikeAll, h x y, alAll_map h xs ys]
    rfl
theorem preAll_map (h : Pre e) : ∀ (xs ys : List α) (l m : List (Int ⊕ List Nat)), keyToksAll (xs.map e) ++ l = keyToksAll (ys.map e) ++ m → xs = ys ∧ l = m
  | [], [], l, m, q => ⟨rfl, by simpa [keyToksAll] using q⟩
  | [], y :: ys, l, m, q => by simp [keyToksAll] at q
  | x :: xs, [], l, m, q => by simp [keyToksAll] at q
  | x :: xs, y :: ys, l, m, q => by
    rw [List.map_cons, List.map_cons, toks_all_cons, toks_all_cons, List.cons_append, List.cons_append, List.append_assoc, List.append_assoc, List.cons.injEq] at q
    obtain ⟨e1, q1⟩ := h x y _ _ q.2
    obtain ⟨e2, q2⟩ := preAll_map h xs ys l m q1
    exact ⟨by rw [e1, e2], q2⟩
theorem layAll_map (h : ∀ a, (e a).canLay0 = true) : ∀ xs : List α, PyData.canLayAll0 (xs.map e) = true
  | [] => by simp [PyData.canLayAll0]
  | x :: xs => by rw [List.map_cons, PyData.canLayAll0, h x, layAll_map h xs]; rfl
theorem depAll_map {n : Nat} (h : ∀ a, (e a).depth ≤ n) : ∀ xs : List α, PyData.depthAll (xs.map e) ≤ n
  | [] => by simp [PyData.depthAll]
  | x :: xs => by
    rw [List.map_cons, PyData.depthAll]
    exact Nat.max_le.mpr ⟨h x, depAll_map h xs⟩
end
/-- one more level of tuples: f tells the items -/
theorem enc_of {α : Type} {f : α → List PyData} {e : α → PyData} (he : ∀ a, e a = .tuple (f a)) (al : ∀ a b, alikeAll (f a) (f b) = true) (pre : ∀ a b l m, keyToksAll (f a) ++ l = keyToksAll (f b) ++ m → a = b ∧ l = m)
    (lay : ∀ a, PyData.canLayAll0 (f a) = true) (dep : ∀ a, PyData.depthAll (f a) ≤ 7) : EncOk e :=
  ⟨fun a b => by rw [he, he, alike]; exact al a b, fun a b l m q => pre a b l m (by rw [he, he] at q; simpa only [keyToks] using q), fun a => by rw [he, PyData.canLay0]; exact lay a, fun a => by rw [he, PyData.depth]; exact Nat.succ_le_succ (dep a)⟩
theorem enc_ofL {α : Type} {f : α → List PyData} {e : α → PyData} (he : ∀ a, e a = .list (f a)) (al : ∀ a b, alikeAll (f a) (f b) = true) (pre : ∀ a b l m, keyToksAll (f a) ++ l = keyToksAll (f b) ++ m → a = b ∧ l = m)
    (lay : ∀ a, PyData.canLayAll0 (f a) = true) (dep : ∀ a, PyData.depthAll (f a) ≤ 7) : EncOk e :=
  ⟨fun a b => by rw [he, he, alike]; exact al a b, fun a b l m q => pre a b l m (by rw [he, he] at q; simpa only [keyToks] using q), fun a => by rw [he, PyData.canLay0]; exact lay a, fun a => by rw [he, PyData.depth]; exact Nat.succ_le_succ (dep a)⟩
theorem enc_int : EncOk PyData.int := ⟨fun a b => by simp [alike], fun a b l m q => by simpa [keyToks] using q, fun a => by simp [PyData.canLay0], fun a => by simp [PyData.depth]⟩
theorem enc_n : EncOk eN := ⟨fun a b => by simp [eN, alike], fun a b l m q => by
  have := enc_int.pre _ _ l m q
  exact ⟨Int.ofNat.inj this.1, this.2⟩, fun a => by simp [eN, PyData.canLay0], fun a => by simp [eN, PyData.depth]⟩
theorem dep_n (a : Nat) : (eN a).depth = 0 := by simp [eN, PyData.depth]
theorem preA_cons {x y : PyData} {xs ys l m} (q : keyToksAll (x :: xs) ++ l = keyToksAll (y :: ys) ++ m) : keyToks x ++ (keyToksAll xs ++ l) = keyToks y ++ (keyToksAll ys ++ m) := by
  rw [toks_all_cons, toks_all_cons, List.cons_append, List.cons_append, List.append_assoc, List.append_assoc, List.cons.injEq] at q
  exact q.2
theorem preA_nil {l m} (q : keyToksAll [] ++ l = keyToksAll [] ++ m) : l = m := by simpa [keyToksAll] using q
theorem enc_tie : EncOk eTie := enc_of (fun _ => rfl) (fun a b => by simp [alikeAll, enc_n.al]) (fun a b l m q => by
    obtain ⟨e1, q⟩ := enc_n.pre _ _ _ _ (preA_cons q)
    obtain ⟨e2, q⟩ := enc_n.pre _ _ _ _ (preA_cons q)
    obtain ⟨e3, q⟩ := enc_n.pre _ _ _ _ (preA_cons q)
    exact ⟨Prod.ext e1 (Prod.ext e2 e3), preA_nil q⟩) (fun a => by simp [PyData.canLayAll0, enc_n.lay]) fun a => by simp [PyData.depthAll, dep_n]
theorem dep_tie (a : Tie) : (eTie a).depth ≤ 1 := by simp [eTie, PyData.depth, PyData.depthAll, dep_n]
theorem enc_row : EncOk eRow := enc_of (fun _ => rfl) (alAll_map enc_n.al) (preAll_map enc_n.pre) (layAll_map enc_n.lay) fun a => Nat.le_trans (depAll_map (n := 0) (fun a => Nat.le_of_eq (dep_n a)) a) (by decide)
theorem dep_row (a : Row) : (eRow a).depth ≤ 1 := by
  unfold eRow
  rw [PyData.depth]
  exact Nat.succ_le_succ (depAll_map (n := 0) (fun a => Nat.le_of_eq (dep_n a)) a)
theorem enc_adr : EncOk eAdr := enc_of (fun _ => rfl) (fun a b => by simp [alikeAll, enc_n.al, enc_row.al]) (fun a b l m q => by
    obtain ⟨e1, q⟩ := enc_row.pre _ _ _ _ (preA_cons q)
    obtain ⟨e2, q⟩ := enc_n.pre _ _ _ _ (preA_cons q)
    exact ⟨Prod.ext e1 e2, preA_nil q⟩) (fun a => by simp [PyData.canLayAll0, enc_n.lay, enc_row.lay]) fun a => by
      have := dep_row a.1
      simp [PyData.depthAll, dep_n]
      omega
theorem enc_pair : EncOk ePair := enc_of (fun _ => rfl) (fun a b => by simp [alikeAll, enc_tie.al, enc_row.al]) (fun a b l m q => by
    obtain ⟨e1, q⟩ := enc_tie.pre _ _ _ _ (preA_cons q)
    obtain ⟨e2, q⟩ := enc_row.pre _ _ _ _ (preA_cons q)
    exact ⟨Prod.ext e1 e2, preA_nil q⟩) (fun a => by simp [PyData.canLayAll0, enc_tie.lay, enc_row.lay]) fun a => by
      have := dep_row a.2
      have := dep_tie a.1
      simp [PyData.depthAll]
      omega
theorem enc_t4 : EncOk eT4 := enc_of (fun _ => rfl) (fun a b => by simp [alikeAll, enc_n.al, enc_row.al]) (fun a b l m q => by
    obtain ⟨e1, q⟩ := enc_n.pre _ _ _ _ (preA_cons q)
    obtain ⟨e2, q⟩ := enc_n.pre _ _ _ _ (preA_cons q)
    obtain ⟨e3, q⟩ := enc_n.pre _ _ _ _ (preA_cons q)
    obtain ⟨e4, q⟩ := enc_row.pre _ _ _ _ (preA_cons q)
    exact ⟨Prod.ext (Prod.ext e1 (Prod.ext e2 e3)) e4, preA_nil q⟩) (fun a => by simp [PyData.canLayAll0, enc_n.lay, enc_row.lay]) fun a => by
      have := dep_row a.2
      simp [PyData.depthAll, dep_n]
      omega
theorem dep_ties (a : List Tie) : (eTies a).depth ≤ 2 := by
  unfold eTies
  rw [PyData.depth]
  exact Nat.succ_le_succ (depAll_map dep_tie a)
theorem enc_ties : EncOk eTies := enc_of (fun _ => rfl) (alAll_map enc_tie.al) (preAll_map enc_tie.pre) (layAll_map enc_tie.lay) fun a => Nat.le_trans (depAll_map dep_tie a) (by decide)
theorem dep_web (a : Web) : (eWeb a).depth ≤ 3 := by
  have := dep_ties a.2
  simp [eWeb, PyData.depth, PyData.depthAll, dep_n]
  omega
theorem enc_web : EncOk eWeb := enc_of (fun _ => rfl) (fun a b => by simp [alikeAll, enc_n.al, enc_ties.al]) (fun a b l m q => by
    obtain ⟨e1, q⟩ := enc_n.pre _ _ _ _ (preA_cons q)
    obtain ⟨e2, q⟩ := enc_ties.pre _ _ _ _ (preA_cons q)
    exact ⟨Prod.ext e1 e2, preA_nil q⟩) (fun a => by simp [PyData.canLayAll0, enc_n.lay, enc_ties.lay]) fun a => by
      have := dep_ties a.2
      simp [PyData.depthAll, dep_n]
      omega
theorem enc_book : EncOk eBook := enc_of (fun _ => rfl) (alAll_map enc_web.al) (preAll_map enc_web.pre) (layAll_map enc_web.lay) fun a => Nat.le_trans (depAll_map dep_web a) (by decide)
/-- lists of such -/
theorem enc_list {α : Type} {e : α → PyData} (h : EncOk e) (hd : ∀ a, (e a).depth ≤ 7) : EncOk (fun xs : List α => PyData.list (xs.map e)) := enc_ofL (fun _ => rfl) (alAll_map h.al) (preAll_map h.pre) (layAll_map h.lay) (depAll_map hd)
theorem enc_tuple {α : Type} {e : α → PyData} (h : EncOk e) (hd : ∀ a, (e a).depth ≤ 7) : EncOk (fun xs : List α => PyData.tuple (xs.map e)) := enc_of (fun _ => rfl) (alAll_map h.al) (preAll_map h.pre) (layAll_map h.lay) (depAll_map hd)
/-! ### sorting -/
section
variable {α : Type} {e : α → PyData}
def leE (e : α → PyData) (a b : α) : Bool := leD (e a) (e b)
def sortE (e : α → PyData) (xs : List α) : List α := xs.mergeSort (leE e)
theorem srtD_map (xs : List α) : srtD (xs.map e) = (sortE e xs).map e := by
  unfold srtD sortE
  exact (List.map_mergeSort (r := leE e) (s := leD) (f := e) fun a _ b _ => rfl).symm
theorem leE_trans (a b c : α) (h1 : leE e a b = true) (h2 : leE e b c = true) : leE e a c = true := leD_total.trans _ _ _ h1 h2
theorem leE_total (a b : α) : (leE e a b || leE e b a) = true := by
  rcases leD_total.total (e a) (e b) with h | h
  · rw [show leE e a b = true from h]; rfl
  · rw [show leE e b a = true from h, Bool.or_true]
theorem sortE_perm (xs : List α) : (sortE e xs).Perm xs := List.mergeSort_perm xs _
theorem sortE_pair (xs : List α) : (sortE e xs).Pairwise fun a b => leE e a b = true := List.pairwise_mergeSort leE_trans leE_total xs
theorem sortE_len (xs : List α) : (sortE e xs).length = xs.length := List.length_mergeSort xs
theorem sortE_mem {xs : List α} {x : α} : x ∈ sortE e xs ↔ x ∈ xs := (sortE_perm xs).mem_iff
theorem sortE_of {xs : List α} (h : xs.Pairwise fun a b => leE e a b = true) : sortE e xs = xs := List.mergeSort_of_pairwise h
theorem sorted_one (h : EncOk e) {xs ys : List α} (p : xs.Perm ys) (h1 : xs.Pairwise fun a b => leE e a b = true) (h2 : ys.Pairwise fun a b => leE e a b = true) : xs = ys :=
  p.eq_of_pairwise (le := fun a b => leE e a b = true) (fun a b _ _ q1 q2 => h.inj (leD_anti q1 q2)) h1 h2
theorem sortE_one (h : EncOk e) {xs ys : List α} (p : xs.Perm ys) : sortE e xs = sortE e ys := sorted_one h (((sortE_perm xs).trans p).trans (sortE_perm ys).symm) (sortE_pair xs) (sortE_pair ys)
theorem sortOk (h : EncOk e) (ht : ∀ b, ∃ x r, e b = .tuple (x :: r)) {xs : List α} (hl : xs.length ≤ 100000) : SortOk (xs.map e) := ⟨AllAlike.of h.al, Sortable.tuples ht, by rw [List.length_map]; exact hl, fun d hd => by
  obtain ⟨a, _, rfl⟩ := List.mem_map.mp hd
  exact Nat.le_trans (h.dep a) (by decide)⟩
theorem sortOkN {xs : List Nat} (hl : xs.length ≤ 100000) : SortOk (xs.map eN) := ⟨AllAlike.of enc_n.al, Sortable.others fun b => ⟨fun z => (nomatch (show PyData.int (b : Int) = .none from z)), fun xs z => (nomatch (show PyData.int (b : Int) = .tuple xs from z))⟩, by rw [List.length_map]; exact hl, fun d hd => by
  obtain ⟨a, _, rfl⟩ := List.mem_map.mp hd
  exact Nat.le_trans (enc_n.dep a) (by decide)⟩
end
theorem leN (a b : Nat) : leE eN a b = decide (a ≤ b) := by
  unfold leE leD
  have := congrFun (congrFun (dataLe_int (fun n : Nat => (n : Int))) a) b
  show dataLe false (fun n : Nat => PyData.int (n : Int)) a b = _
  rw [this]
  simp
theorem leD_cons {x y : PyData} (h : alike x y = true) (h' : alike y x = true) (xs ys : List PyData) : leD (.tuple (x :: xs)) (.tuple (y :: ys)) = if PyData.eqv x y = true then leD (.tuple xs) (.tuple ys) else leD x y := by
  have e : PyData.eqv y x = PyData.eqv x y := PySem.W.eqv_comm _ _
  show (!dataLt (.tuple (y :: ys)) (.tuple (x :: xs))) = _
  rw [dataLt_tuple, dataLt_cons h', e]
  by_cases q : PyData.eqv x y = true
  · rw [if_pos q, if_pos q]
    show _ = !dataLt (.tuple ys) (.tuple xs)
    rw [dataLt_tuple]
  · rw [if_neg q, if_neg q]
    rfl
theorem leTie_lt {s t : Tie} (h : s.1 < t.1) : leD (eTie s) (eTie t) = true := by
  unfold eTie
  rw [leD_cons (enc_n.al _ _) (enc_n.al _ _), enc_n.eqv, if_neg (by simp; omega)]
  have := leN s.1 t.1
  unfold leE at this
  rw [this]
  simp
  omega
/-- ties in order, by their rows: where the ties are in order with rows, they are so without -/
theorem leTie_pair {p q : Tie × Row} (h : leE ePair p q = true) : leE eTie p.1 q.1 = true := by
  unfold leE at h ⊢
  unfold ePair at h
  rw [leD_cons (enc_tie.al _ _) (enc_tie.al _ _)] at h
  by_cases e : PyData.eqv (eTie p.1) (eTie q.1) = true
  · rw [enc_tie.eqv, decide_eq_true_eq] at e
    rw [e]
    exact leD_total.refl _
  · rw [if_neg e] at h
    exact h
theorem leT4_pair (p q : Tie × Row) : leE eT4 p q = leE ePair p q := by
  unfold leE
  unfold ePair
  rw [leD_cons (enc_tie.al _ _) (enc_tie.al _ _)]
  unfold eT4 eTie
  have g : ∀ {a b : Nat} {xs ys : List PyData}, leD (.tuple (eN a :: xs)) (.tuple (eN b :: ys)) = if a = b then leD (.tuple xs) (.tuple ys) else decide (a ≤ b) := fun {a b xs ys} => by
    rw [leD_cons (enc_n.al _ _) (enc_n.al _ _), enc_n.eqv]
    have := leN a b
    unfold leE at this
    rw [this]
    by_cases h : a = b <;> simp [h]
  have f : PyData.eqv (.tuple [eN p.1.1, eN p.1.2.1, eN p.1.2.2]) (.tuple [eN q.1.1, eN q.1.2.1, eN q.1.2.2]) = decide (p.1 = q.1) := enc_tie.eqv p.1 q.1
  rw [f, g, g, g, g, g, g]
  obtain ⟨⟨a, b, c⟩, r⟩ := p
  obtain ⟨⟨a', b', c'⟩, r'⟩ := q
  by_cases h1 : a = a' <;> by_cases h2 : b = b' <;> by_cases h3 : c = c' <;> simp [h1, h2, h3]
theorem sortT4 (xs : List (Tie × Row)) : sortE eT4 xs = sortE ePair xs := by
  unfold sortE
  have : leE eT4 = leE ePair := by
    funext p q
    exact leT4_pair p q
  rw [this]
end L3
/-! What the defs compute, plainly. -/
namespace L3
open PySem
def kd (b : Book) (c : Nat) : Web := b.getD c (2, [])
theorem kd_get {b : Book} {c : Nat} (h : c < b.length) : b[c]? = some (kd b c) := by
  unfold kd
  rw [List.getD_eq_getElem?_getD, List.getElem?_eq_getElem h]
  rfl
theorem kd_mem {b : Book} {c : Nat} (h : c < b.length) : kd b c ∈ b := List.mem_of_getElem? (kd_get h)
def inn (b : Book) (c : Nat) : Nat := (kd b c).1 - 2
def nm (t : Tie) (base x : Nat) : Nat := if x = 0 then t.1 else if x = 1 then t.2.1 else base + x - 2
def num {α : Type} : Nat → List α → List (Nat × α)
  | _, [] => []
  | k, x :: xs => (k, x) :: num (k + 1) xs
theorem num_len {α : Type} : ∀ (k : Nat) (xs : List α), (num k xs).length = xs.length
  | _, [] => rfl
  | k, x :: xs => by rw [num, List.length_cons, List.length_cons, num_len]
theorem num_get {α : Type} : ∀ (k : Nat) (xs : List α) (i : Nat), (num k xs)[i]? = xs[i]?.map fun x => (k + i, x)
  | _, [], _ => by simp [num]
  | k, x :: xs, 0 => by simp [num]
  | k, x :: xs, i + 1 => by
    rw [num, List.getElem?_cons_succ, num_get (k + 1) xs i, List.getElem?_cons_succ]
    have : k + 1 + i = k + (i + 1) := by omega
    rw [this]
theorem num_mem {α : Type} {k : Nat} {xs : List α} {q : Nat × α} (h : q ∈ num k xs) : k ≤ q.1 ∧ xs[q.1 - k]? = some q.2 := by
  obtain ⟨i, hi⟩ := List.mem_iff_getElem?.mp h
  rw [num_get] at hi
  cases e : xs[i]? with
  | none => rw [e] at hi; cases hi
  | some x =>
    rw [e] at hi
    cases hi
    refine ⟨Nat.le_add_right _ _, ?_⟩
    show xs[k + i - k]? = some x
    rw [Nat.add_sub_cancel_left]
    exact e
theorem num_map {α β : Type} (f : α → β) : ∀ (k : Nat) (xs : List α), num k (xs.map f) = (num k xs).map fun q => (q.1, f q.2)
  | _, [] => rfl
  | k, x :: xs => by rw [List.map_cons, num, num, List.map_cons, num_map]
theorem num_snd {α : Type} : ∀ (k : Nat) (xs : List α), (num k xs).map (·.2) = xs
  | _, [] => rfl
  | k, x :: xs => by rw [num, List.map_cons, num_snd]
/-- as Python tells it -/
theorem enD_num {α : Type} (e : α → PyData) : ∀ (k : Nat) (xs : List α), enD k (xs.map e) = (num k xs).map fun q => PyData.tuple [eN q.1, e q.2]
  | _, [] => rfl
  | k, x :: xs => by
    rw [List.map_cons, enD, num, List.map_cons, enD_num]
    rfl
def kidOf (p : Tie × Row) (base : Nat) (q : Nat × Tie) : Tie × Row := ((nm p.1 base q.2.1, nm p.1 base q.2.2.1, q.2.2.2), p.2 ++ [q.1])
def kids (b : Book) (base : Nat) (p : Tie × Row) : List (Tie × Row) := (num 0 (kd b p.1.2.2).2).map (kidOf p base)
def endR (b : Book) : Nat → List (Tie × Row) → Nat
  | base, [] => base
  | base, p :: ps => endR b (base + inn b p.1.2.2) ps
def foundR (b : Book) : Nat → List (Tie × Row) → List (Tie × Row)
  | _, [] => []
  | base, p :: ps => kids b base p ++ foundR b (base + inn b p.1.2.2) ps
theorem endR_app (b : Book) : ∀ (base : Nat) (ps qs : List (Tie × Row)), endR b base (ps ++ qs) = endR b (endR b base ps) qs
  | _, [], _ => rfl
  | base, p :: ps, qs => by rw [List.cons_append, endR, endR, endR_app]
theorem foundR_app (b : Book) : ∀ (base : Nat) (ps qs : List (Tie × Row)), foundR b base (ps ++ qs) = foundR b base ps ++ foundR b (endR b base ps) qs
  | _, [], _ => by rw [List.nil_append, foundR, endR, List.nil_append]
  | base, p :: ps, qs => by rw [List.cons_append, foundR, foundR, endR, foundR_app, List.append_assoc]
theorem endR_sum (b : Book) : ∀ (base : Nat) (ps : List (Tie × Row)), endR b base ps = base + (ps.map fun p => inn b p.1.2.2).sum
  | _, [] => rfl
  | base, p :: ps => by rw [endR, endR_sum, List.map_cons, List.sum_cons]; omega
theorem kids_len (b : Book) (base : Nat) (p : Tie × Row) : (kids b base p).length = (kd b p.1.2.2).2.length := by
  unfold kids
  rw [List.length_map, num_len]
theorem foundR_sum (b : Book) : ∀ (base : Nat) (ps : List (Tie × Row)), (foundR b base ps).length = (ps.map fun p => (kd b p.1.2.2).2.length).sum
  | _, [] => rfl
  | base, p :: ps => by rw [foundR, List.length_append, kids_len, foundR_sum, List.map_cons, List.sum_cons]
def roundR (b : Book) (base : Nat) (ps : List (Tie × Row)) : Nat × List (Tie × Row) := (endR b base ps, sortE ePair (foundR b base ps))
def bare (ts : List Tie) : List (Tie × Row) := ts.map fun t => (t, [])
def round (b : Book) (w : Web) : Web := ((roundR b w.1 (bare w.2)).1, (roundR b w.1 (bare w.2)).2.map (·.1))
/-- the round is not too big -/
structure RoomOk (b : Book) (w : Web) : Prop where
  places : (round b w).1 ≤ 400
  ties : (round b w).2.length ≤ 600
theorem round_places (b : Book) (w : Web) : (round b w).1 = w.1 + (w.2.map fun t => inn b t.2.2).sum := by
  show endR b w.1 (bare w.2) = _
  rw [endR_sum]
  unfold bare
  rw [List.map_map]
  rfl
theorem round_ties (b : Book) (w : Web) : (round b w).2.length = (w.2.map fun t => (kd b t.2.2).2.length).sum := by
  show ((sortE ePair (foundR b w.1 (bare w.2))).map (·.1)).length = _
  rw [List.length_map, sortE_len, foundR_sum]
  unfold bare
  rw [List.map_map]
  rfl
theorem sum_cast : ∀ (xs : List Nat), (xs.map fun (x : Nat) => (x : Int)).sum = ((xs.sum : Nat) : Int)
  | [] => rfl
  | x :: xs => by rw [List.map_cons, List.sum_cons, List.sum_cons, sum_cast]; simp
end L3
/-! Rows, addresses, ends, plainly. -/
namespace L3
open PySem
def tieG (w : Web) (r : Nat) : Tie := w.2.getD r (0, 0, 0)
theorem tieG_get {w : Web} {r : Nat} (h : r < w.2.length) : w.2[r]? = some (tieG w r) := by
  unfold tieG
  rw [List.getD_eq_getElem?_getD, List.getElem?_eq_getElem h]
  rfl
theorem tieG_mem {w : Web} {r : Nat} (h : r < w.2.length) : tieG w r ∈ w.2 := List.mem_of_getElem? (tieG_get h)
def webAt (b : Book) : Web → Row → Web
  | w, [] => w
  | w, r :: rs => webAt b (kd b (tieG w r).2.2) rs
def kseq (b : Book) : Web → Row → List Nat
  | _, [] => []
  | w, r :: rs => (tieG w r).2.2 :: kseq b (kd b (tieG w r).2.2) rs
def RowIn (b : Book) : Web → Row → Prop
  | _, [] => True
  | w, r :: rs => r < w.2.length ∧ RowIn b (kd b (tieG w r).2.2) rs
theorem webAt_snoc (b : Book) : ∀ (w : Web) (r : Row) (x : Nat), webAt b w (r ++ [x]) = kd b (tieG (webAt b w r) x).2.2
  | _, [], _ => rfl
  | w, y :: r, x => by rw [List.cons_append, webAt, webAt, webAt_snoc]
theorem kseq_snoc (b : Book) : ∀ (w : Web) (r : Row) (x : Nat), kseq b w (r ++ [x]) = kseq b w r ++ [(tieG (webAt b w r) x).2.2]
  | _, [], _ => rfl
  | w, y :: r, x => by rw [List.cons_append, kseq, kseq, webAt, kseq_snoc, List.cons_append]
theorem kseq_len (b : Book) : ∀ (w : Web) (r : Row), (kseq b w r).length = r.length
  | _, [] => rfl
  | w, y :: r => by rw [kseq, List.length_cons, List.length_cons, kseq_len]
theorem rowIn_at (b : Book) : ∀ (w : Web) (r : Row) (x : Nat) (rs : Row), RowIn b w (r ++ x :: rs) → x < (webAt b w r).2.length
  | _, [], _, _, h => h.1
  | w, y :: r, x, rs, h => rowIn_at b _ r x rs h.2
theorem rowIn_pre (b : Book) : ∀ (w : Web) (r rs : Row), RowIn b w (r ++ rs) → RowIn b w r
  | _, [], _, _ => True.intro
  | w, y :: r, rs, h => ⟨h.1, rowIn_pre b _ r rs h.2⟩
theorem rowIn_snoc (b : Book) : ∀ (w : Web) (r : Row) (x : Nat), RowIn b w r → x < (webAt b w r).2.length → RowIn b w (r ++ [x])
  | _, [], _, _, h => ⟨h, True.intro⟩
  | w, y :: r, x, h, h2 => ⟨h.1, rowIn_snoc b _ r x h.2 h2⟩
/-- every web on the way is in order -/
theorem webAt_ok {g : Gar} (ok : GarOk g) : ∀ (r : Row), RowIn g.2 g.1 r → WebOk (webAt g.2 g.1 r) ∧ Below (webAt g.2 g.1 r) g.2.length := by
  have go : ∀ (r : Row) (w : Web), WebOk w → Below w g.2.length → RowIn g.2 w r → WebOk (webAt g.2 w r) ∧ Below (webAt g.2 w r) g.2.length := by
    intro r
    induction r with
    | nil => intro w h1 h2 _; exact ⟨h1, h2⟩
    | cons x r ih =>
      intro w h1 h2 h3
      have hc := h2 _ (tieG_mem h3.1)
      have hk := ok.book.webs _ (kd_mem hc)
      exact ih _ hk.1 hk.2.2 h3.2
  exact fun r h => go r g.1 ok.start ok.below h
def kindOf (g : Gar) (row : Row) : Nat := (kseq g.2 g.1 row).getLastD 0
theorem kindOf_snoc (g : Gar) (r : Row) (x : Nat) : kindOf g (r ++ [x]) = (tieG (webAt g.2 g.1 r) x).2.2 := by
  unfold kindOf
  rw [kseq_snoc]
  simp
theorem row_snoc {row : Row} (h : row ≠ []) : ∃ r x, row = r ++ [x] := ⟨row.dropLast, row.getLast h, (List.dropLast_concat_getLast h).symm⟩
theorem webAt_kind {g : Gar} {row : Row} (h : row ≠ []) : webAt g.2 g.1 row = kd g.2 (kindOf g row) := by
  obtain ⟨r, x, rfl⟩ := row_snoc h
  rw [webAt_snoc, kindOf_snoc]
theorem kindOf_lt {g : Gar} (ok : GarOk g) {row : Row} (h : row ≠ []) (hr : RowIn g.2 g.1 row) : kindOf g row < g.2.length := by
  obtain ⟨r, x, rfl⟩ := row_snoc h
  rw [kindOf_snoc]
  exact (webAt_ok ok r (rowIn_pre _ _ _ _ hr)).2 _ (tieG_mem (rowIn_at _ _ r x [] hr))
/-! the ends of a row -/
abbrev Ends3 := Adr × Adr × Nat
def pick (s : Ends3) (r : Row) (x : Nat) : Adr := if x = 0 then s.1 else if x = 1 then s.2.1 else (r, x)
def endStep (b : Book) (row : Row) (i : Nat) (s : Ends3) : Ends3 :=
  (pick s (row.take i) (tieG (kd b s.2.2) (row.getD i 0)).1, pick s (row.take i) (tieG (kd b s.2.2) (row.getD i 0)).2.1, (tieG (kd b s.2.2) (row.getD i 0)).2.2)
def endsI (g : Gar) (row : Row) : Nat → Ends3
  | 0 => (([], (tieG g.1 (row.getD 0 0)).1), ([], (tieG g.1 (row.getD 0 0)).2.1), (tieG g.1 (row.getD 0 0)).2.2)
  | i + 1 => endStep g.2 row (i + 1) (endsI g row i)
theorem getD_of {row : Row} {i x : Nat} (h : row[i]? = some x) : row.getD i 0 = x := by
  rw [List.getD_eq_getElem?_getD, h]
  rfl
theorem endsI_kind {g : Gar} {row : Row} : ∀ {i : Nat}, i < row.length → (endsI g row i).2.2 = kindOf g (row.take (i + 1))
  | 0, h => by
    obtain ⟨x, hx⟩ : ∃ x, row[0]? = some x := ⟨_, List.getElem?_eq_getElem h⟩
    have e : row.take 1 = [] ++ [x] := by rw [List.take_add_one, hx]; rfl
    rw [e, kindOf_snoc]
    show (tieG g.1 (row.getD 0 0)).2.2 = _
    rw [getD_of hx]
    rfl
  | i + 1, h => by
    obtain ⟨x, hx⟩ : ∃ x, row[i + 1]? = some x := ⟨_, List.getElem?_eq_getElem h⟩
    have e : row.take (i + 1 + 1) = row.take (i + 1) ++ [x] := by rw [List.take_add_one (i := i + 1), hx]; rfl
    have ih := endsI_kind (g := g) (row := row) (i := i) (by omega)
    rw [e, kindOf_snoc]
    show (tieG (kd g.2 (endsI g row i).2.2) (row.getD (i + 1) 0)).2.2 = _
    rw [getD_of hx, ih, ← webAt_kind (by
      intro z
      have h1 := congrArg List.length z
      rw [List.length_take, List.length_nil] at h1
      omega)]
/-- an address of the garden, at any time -/
def AdrOk (g : Gar) (a : Adr) : Prop := (a.1 = [] ∧ a.2 < g.1.1) ∨ (a.1 ≠ [] ∧ RowIn g.2 g.1 a.1 ∧ a.1.length ≤ 1000 ∧ 2 ≤ a.2 ∧ a.2 < (kd g.2 (kindOf g a.1)).1)
def around (g : Gar) (row : Row) : Web := if row = [] then g.1 else kd g.2 (kindOf g row)
/-! degrees -/
def sideOf (s : Bool) (t : Tie) : Nat := if s then t.2.1 else t.1
def cntE (ts : List Tie) (s : Bool) (p c : Nat) : Nat := ts.countP fun t => decide (sideOf s t = p) && decide (t.2.2 = c)
def cntL (ts : List Tie) (s : Bool) (p k : Nat) : List Nat := (List.range k).map (cntE ts s p)
theorem cntE_snoc (ts : List Tie) (s : Bool) (p c : Nat) (t : Tie) : cntE (ts ++ [t]) s p c = cntE ts s p c + if sideOf s t = p ∧ t.2.2 = c then 1 else 0 := by
  unfold cntE
  rw [List.countP_append, List.countP_singleton]
  by_cases h1 : sideOf s t = p <;> by_cases h2 : t.2.2 = c <;> simp [h1, h2]
theorem cntL_get {ts : List Tie} {s : Bool} {p k c : Nat} (h : c < k) : (cntL ts s p k)[c]? = some (cntE ts s p c) := by
  unfold cntL
  rw [List.getElem?_map, List.getElem?_range h]
  rfl
theorem cntL_len (ts : List Tie) (s : Bool) (p k : Nat) : (cntL ts s p k).length = k := by
  unfold cntL
  rw [List.length_map, List.length_range]
theorem cntL_miss {ts : List Tie} {s : Bool} {p k : Nat} {t : Tie} (h : sideOf s t ≠ p) : cntL (ts ++ [t]) s p k = cntL ts s p k := by
  unfold cntL
  refine List.map_congr_left fun c _ => ?_
  rw [cntE_snoc, if_neg (fun z => h z.1), Nat.add_zero]
theorem cntL_hit {ts : List Tie} {s : Bool} {p k : Nat} {t : Tie} (h : sideOf s t = p) : cntL (ts ++ [t]) s p k = (cntL ts s p k).set t.2.2 (cntE ts s p t.2.2 + 1) := by
  refine List.ext_getElem? fun c => ?_
  by_cases hc : c < k
  · rw [cntL_get hc, cntE_snoc]
    by_cases e : t.2.2 = c
    · subst e
      rw [List.getElem?_set_self (by rw [cntL_len]; exact hc), if_pos ⟨h, rfl⟩]
    · rw [List.getElem?_set_ne e, cntL_get hc, if_neg (fun z => e z.2), Nat.add_zero]
  · rw [List.getElem?_eq_none (by rw [cntL_len]; omega), List.getElem?_eq_none (by rw [List.length_set, cntL_len]; omega)]
theorem cntL_nil (s : Bool) (p k : Nat) : cntL [] s p k = List.replicate k 0 := by
  refine List.ext_getElem? fun c => ?_
  by_cases hc : c < k
  · rw [cntL_get hc, List.getElem?_replicate, if_pos hc]
    rfl
  · rw [List.getElem?_eq_none (by rw [cntL_len]; omega), List.getElem?_eq_none (by rw [List.length_replicate]; omega)]
/-! all addresses -/
def adrsOf (b : Book) (ps : List (Tie × Row)) : List Adr := ps.flatMap fun p => (List.range (inn b p.1.2.2)).map fun j => (p.2, 2 + j)
def stR (g : Gar) : Nat → Nat × List (Tie × Row)
  | 0 => (g.1.1, (num 0 g.1.2).map fun q => (q.2, [q.1]))
  | i + 1 => roundR g.2 (stR g i).1 (stR g i).2
def allA (g : Gar) : Nat → List Adr
  | 0 => (List.range g.1.1).map fun p => ([], p)
  | i + 1 => allA g i ++ adrsOf g.2 (stR g i).2
structure StFit (g : Gar) (n : Nat) : Prop where
  places : ∀ i, i ≤ n → (stR g i).1 ≤ 400
  rows : ∀ i, i ≤ n → (stR g i).2.length ≤ 600
/-- the web after n rounds -/
def W (g : Gar) : Nat → Web
  | 0 => g.1
  | i + 1 => round g.2 (W g i)
structure Fits (g : Gar) (n : Nat) : Prop where
  places : ∀ i, i ≤ n → (W g i).1 ≤ 400
  ties : ∀ i, i ≤ n → (W g i).2.length ≤ 600
theorem foundR_mem {b : Book} {p' : Tie × Row} : ∀ {base : Nat} {ps : List (Tie × Row)}, p' ∈ foundR b base ps → ∃ p ∈ ps, ∃ base' q, q ∈ num 0 (kd b p.1.2.2).2 ∧ p' = kidOf p base' q
  | _, [], h => nomatch h
  | base, p :: ps, h => by
    rw [foundR] at h
    rcases List.mem_append.mp h with h | h
    · obtain ⟨q, hq, rfl⟩ := List.mem_map.mp h
      exact ⟨p, List.mem_cons_self, base, q, hq, rfl⟩
    · obtain ⟨p2, h1, base', q, h2, h3⟩ := foundR_mem h
      exact ⟨p2, List.mem_cons_of_mem _ h1, base', q, h2, h3⟩
theorem stR_row {g : Gar} (ok : GarOk g) : ∀ (i : Nat) (p : Tie × Row), p ∈ (stR g i).2 → p.1.2.2 < g.2.length ∧ p.2.length = i + 1
  | 0, p, h => by
    obtain ⟨q, hq, rfl⟩ := List.mem_map.mp h
    obtain ⟨_, e⟩ := num_mem hq
    exact ⟨ok.below _ (List.mem_of_getElem? e), rfl⟩
  | i + 1, p, h => by
    have h' : p ∈ foundR g.2 (stR g i).1 (stR g i).2 := sortE_mem.mp h
    obtain ⟨p2, h1, base', q, h2, rfl⟩ := foundR_mem h'
    obtain ⟨k1, k2⟩ := stR_row ok i p2 h1
    obtain ⟨_, e⟩ := num_mem h2
    have hb := (ok.book.webs _ (kd_mem k1)).2.2 _ (List.mem_of_getElem? e)
    refine ⟨hb, ?_⟩
    show (p2.2 ++ [q.1]).length = _
    rw [List.length_append, k2]
    rfl
theorem adrsOf_len (b : Book) (ps : List (Tie × Row)) : (adrsOf b ps).length = (ps.map fun p => inn b p.1.2.2).sum := by
  unfold adrsOf
  rw [List.length_flatMap]
  simp
theorem allA_len (g : Gar) : ∀ i, (allA g i).length = (stR g i).1
  | 0 => by
    show ((List.range g.1.1).map _).length = g.1.1
    rw [List.length_map, List.length_range]
  | i + 1 => by
    show (allA g i ++ adrsOf g.2 (stR g i).2).length = endR g.2 (stR g i).1 (stR g i).2
    rw [List.length_append, allA_len g i, adrsOf_len, endR_sum]
theorem adrsOf_app (b : Book) (ps qs : List (Tie × Row)) : adrsOf b (ps ++ qs) = adrsOf b ps ++ adrsOf b qs := by
  unfold adrsOf
  rw [List.flatMap_append]
theorem adrsOf_one (b : Book) (p : Tie × Row) : adrsOf b [p] = (List.range (inn b p.1.2.2)).map fun j => (p.2, 2 + j) := by
  unfold adrsOf
  simp
end L3
/-! A round keeps webs in order; webs and books as keys. -/
namespace L3
open PySem
theorem foundR_mem2 {b : Book} {p' : Tie × Row} : ∀ {base : Nat} {ps : List (Tie × Row)}, p' ∈ foundR b base ps → ∃ p ∈ ps, ∃ base' q, q ∈ num 0 (kd b p.1.2.2).2 ∧ p' = kidOf p base' q ∧ base ≤ base' ∧ base' + inn b p.1.2.2 ≤ endR b base ps
  | _, [], h => nomatch h
  | base, p :: ps, h => by
    rw [foundR] at h
    have le : ∀ (n : Nat) (ps : List (Tie × Row)), n ≤ endR b n ps := fun n ps => by rw [endR_sum]; omega
    rcases List.mem_append.mp h with h | h
    · obtain ⟨q, hq, rfl⟩ := List.mem_map.mp h
      exact ⟨p, List.mem_cons_self, base, q, hq, rfl, Nat.le_refl _, le _ _⟩
    · obtain ⟨p2, h1, base', q, h2, h3, h4, h5⟩ := foundR_mem2 h
      exact ⟨p2, List.mem_cons_of_mem _ h1, base', q, h2, h3, by omega, h5⟩
theorem nm_lt {t : Tie} {n base x k e : Nat} (h1 : t.1 < n) (h2 : t.2.1 < n) (hn : n ≤ base) (hx : x < k) (h2k : 2 ≤ k) (he : base + (k - 2) ≤ e) : nm t base x < e := by
  unfold nm
  split
  · omega
  · split
    · omega
    · omega
theorem nm_ne {t : Tie} {n base x y : Nat} (h1 : t.1 < n) (h2 : t.2.1 < n) (h : t.1 ≠ t.2.1) (hn : n ≤ base) (hxy : x ≠ y) : nm t base x ≠ nm t base y := by
  unfold nm
  split <;> split <;> (try split) <;> (try split) <;> omega
theorem round_ok {w : Web} {b : Book} (wk : WebOk w) (bk : BookOk b) (bel : Below w b.length) (rm : RoomOk b w) : WebOk (round b w) ∧ Below (round b w) b.length := by
  have hle : w.1 ≤ (round b w).1 := by rw [round_places]; omega
  have each : ∀ t ∈ (round b w).2, TieOk (round b w).1 t ∧ t.2.2 < b.length := by
    intro t ht
    obtain ⟨p', hp', rfl⟩ := List.mem_map.mp ht
    obtain ⟨p, hp, base', q, hq, rfl, hb1, hb2⟩ := foundR_mem2 (sortE_mem.mp hp')
    obtain ⟨t0, ht0, rfl⟩ := List.mem_map.mp hp
    obtain ⟨_, eq⟩ := num_mem hq
    have hc := bel t0 ht0
    obtain ⟨k1, k2, k3⟩ := bk.webs _ (kd_mem hc)
    have tq := k1.ties _ (List.mem_of_getElem? eq)
    have t0k := wk.ties t0 ht0
    have hk := k3 _ (List.mem_of_getElem? eq)
    have hb3 : base' + ((kd b t0.2.2).1 - 2) ≤ (round b w).1 := hb2
    have := bk.few
    exact ⟨⟨nm_lt t0k.a t0k.b hb1 tq.a k2 hb3, nm_lt t0k.a t0k.b hb1 tq.b k2 hb3, nm_ne t0k.a t0k.b t0k.ne hb1 tq.ne, by show q.2.2.2 < 3; omega⟩, hk⟩
  refine ⟨⟨by have := wk.pos; omega, rm.places, fun t ht => (each t ht).1, ?_, rm.ties⟩, fun t ht => (each t ht).2⟩
  show ((sortE ePair (foundR b w.1 (bare w.2))).map (·.1)).Pairwise _
  rw [List.pairwise_map]
  exact (sortE_pair (e := ePair) (foundR b w.1 (bare w.2))).imp fun h => leTie_pair h
theorem W_room {g : Gar} {n i : Nat} (f : Fits g n) (h : i < n) : RoomOk g.2 (W g i) := ⟨f.places (i + 1) h, f.ties (i + 1) h⟩
theorem W_ok {g : Gar} {n : Nat} (wk : WebOk g.1) (bk : BookOk g.2) (bel : Below g.1 g.2.length) (f : Fits g n) : ∀ i, i ≤ n → WebOk (W g i) ∧ Below (W g i) g.2.length
  | 0, _ => ⟨wk, bel⟩
  | i + 1, h => by
    obtain ⟨h1, h2⟩ := W_ok wk bk bel f i (by omega)
    exact round_ok h1 bk h2 (W_room f h)
/-! keys -/
def kN (n : Nat) : NestedKey := .num (n : Int)
def kTie (t : Tie) : NestedKey := .tup [kN t.1, kN t.2.1, kN t.2.2]
def kWeb (w : Web) : NestedKey := .tup [kN w.1, .tup (w.2.map kTie)]
def kBook (b : Book) : NestedKey := .tup (b.map kWeb)
theorem datas_map {α : Type} {k : α → NestedKey} {e : α → PyData} (h : ∀ a, (k a).data = e a) : ∀ xs : List α, NestedKey.datas (xs.map k) = xs.map e
  | [] => by rw [List.map_nil, NestedKey.datas, List.map_nil]
  | x :: xs => by rw [List.map_cons, NestedKey.datas, h x, datas_map h xs, List.map_cons]
theorem kTie_data (t : Tie) : (kTie t).data = eTie t := by simp [kTie, kN, NestedKey.data, NestedKey.datas, eTie, eN]
theorem kWeb_data (w : Web) : (kWeb w).data = eWeb w := by
  unfold kWeb eWeb eTies
  rw [NestedKey.data, NestedKey.datas, NestedKey.datas, NestedKey.datas, NestedKey.data, datas_map kTie_data]
  rfl
theorem kBook_data (b : Book) : (kBook b).data = eBook b := by
  unfold kBook eBook
  rw [NestedKey.data, datas_map kWeb_data]
theorem kWeb_inj (a b : Web) (h : kWeb a = kWeb b) : a = b := enc_web.inj2 (by rw [← kWeb_data, ← kWeb_data, h])
theorem kBook_inj (a b : Book) (h : kBook a = kBook b) : a = b := enc_book.inj2 (by rw [← kBook_data, ← kBook_data, h])
theorem depthAll_map {α : Type} {k : α → NestedKey} {n : Nat} (h : ∀ a, (k a).depth ≤ n) : ∀ xs : List α, NestedKey.depthAll (xs.map k) ≤ n
  | [] => by rw [List.map_nil, NestedKey.depthAll]; omega
  | x :: xs => by
    rw [List.map_cons, NestedKey.depthAll]
    exact Nat.max_le.mpr ⟨h x, depthAll_map h xs⟩
theorem kTie_dep (t : Tie) : (kTie t).depth ≤ 1 := by simp [kTie, kN, NestedKey.depth, NestedKey.depthAll]
theorem kWeb_dep (w : Web) : (kWeb w).depth ≤ 3 := by
  have := depthAll_map kTie_dep w.2
  simp [kWeb, kN, NestedKey.depth, NestedKey.depthAll]
  omega
theorem kBook_dep (b : Book) : (kBook b).depth ≤ 8 := by
  have := depthAll_map kWeb_dep b
  unfold kBook
  rw [NestedKey.depth]
  omega
end L3
/-! What the law's own defs compute, plainly. -/
namespace L3
open PySem
def fsts (ps : List (Tie × Row)) : List Tie := ps.map (·.1)
def lround (b : Book) (w : Web) : Web := (endR b w.1 (bare w.2), sortE eTie (fsts (foundR b w.1 (bare w.2))))
def manyF (ts : List Tie) (c : Nat) : Nat := ts.countP fun t => decide (t.2.2 = c)
def lstF (k : Nat) (f : Nat → Nat) : List PyData := (List.range k).map fun d => eN (f d)
def sumK (k : Nat) (f : Nat → Nat) : Nat := ((List.range k).map f).sum
theorem sumK_succ (k : Nat) (f : Nat → Nat) : sumK (k + 1) f = sumK k f + f k := by
  unfold sumK
  rw [List.range_succ, List.map_append, List.sum_append]
  simp
theorem lstF_get {k : Nat} {f : Nat → Nat} {j : Nat} (hj : j < k) : (lstF k f)[j]? = some (eN (f j)) := by
  unfold lstF
  rw [List.getElem?_map, List.getElem?_range hj]
  rfl
/-- places and ties by kinds after so many rounds -/
def mst (g : Gar) : Nat → Nat × (Nat → Nat)
  | 0 => (g.1.1, manyF g.1.2)
  | i + 1 => ((mst g i).1 + sumK g.2.length (fun c => (mst g i).2 c * inn g.2 c), fun d => sumK g.2.length fun c => (mst g i).2 c * manyF (kd g.2 c).2 d)
def MostRes (g : Gar) (n : Nat) (d : PyData) : Prop := (d = .none ∧ ∀ i, i < n → (mst g (i + 1)).1 ≤ 400 ∧ sumK g.2.length (mst g (i + 1)).2 ≤ 600) ∨ ∃ z, d = .int z
theorem manyF_le (ts : List Tie) (c : Nat) : manyF ts c ≤ ts.length := List.countP_le_length
/-! the law's parts -/
def single (b : Book) (c : Nat) : Gar := ((2, [(0, 1, c)]), b)
def toRow (t : Nat) (a : Adr) : Adr := (t :: a.1.drop 1, a.2)
/-- j is where a stands first -/
def FirstAt (A : List Adr) (a : Adr) (j : Nat) : Prop := A[j]? = some a ∧ ∀ m, m < j → A[m]? ≠ some a
/-- a garden with n rounds that pass no limit -/
structure Run (g : Gar) (n : Nat) : Prop where
  ok : GarOk g
  n9 : n ≤ 900
  fit : Fits g n
  sfit : StFit g n
/-- the renaming, slot by slot -/
def renPart (g : Gar) (n : Nat) (ix : Adr → Nat) (q : Nat × Tie) : List Nat := (List.range ((W (single g.2 q.2.2.2) n).1 - 2)).map fun j => ix (toRow q.1 ((allA (single g.2 q.2.2.2) n).getD (2 + j) ([], 0)))
def renF (g : Gar) (n : Nat) (ix : Adr → Nat) : List Nat := List.range g.1.1 ++ (num 0 g.1.2).flatMap (renPart g n ix)
structure RenOk (g : Gar) (pw : Book) (n : Nat) (ix : Adr → Nat) : Prop where
  run : Run g n
  each : ∀ t ∈ g.1.2, t.2.2 < pw.length ∧ (kd pw t.2.2).1 = (W (single g.2 t.2.2) n).1 ∧ Run (single g.2 t.2.2) n
  adr : ∀ q ∈ num 0 g.1.2, ∀ j, j < (W (single g.2 q.2.2.2) n).1 - 2 → ∃ a, (allA (single g.2 q.2.2.2) n)[2 + j]? = some a ∧ a.1.length ≤ 1000 ∧ AdrOk g (toRow q.1 a) ∧ (toRow q.1 a).1.length ≤ n ∧ FirstAt (allA g n) (toRow q.1 a) (ix (toRow q.1 a))
end L3
/-! The rows against the webs. -/
namespace L3
open PySem
theorem endR_fsts (b : Book) (base : Nat) (ps : List (Tie × Row)) : endR b base ps = endR b base (bare (fsts ps)) := by
  rw [endR_sum, endR_sum]
  unfold bare fsts
  rw [List.map_map, List.map_map]
  rfl
theorem kids_fsts (b : Book) (base : Nat) (p : Tie × Row) (r : Row) : fsts (kids b base p) = fsts (kids b base (p.1, r)) := by
  unfold kids fsts
  rw [List.map_map, List.map_map]
  rfl
theorem foundR_fsts (b : Book) : ∀ (base : Nat) (ps : List (Tie × Row)), fsts (foundR b base ps) = fsts (foundR b base (bare (fsts ps)))
  | _, [] => rfl
  | base, p :: ps => by
    have e : bare (fsts (p :: ps)) = (p.1, []) :: bare (fsts ps) := rfl
    rw [e, foundR, foundR]
    show fsts _ = fsts _
    have a : ∀ xs ys : List (Tie × Row), fsts (xs ++ ys) = fsts xs ++ fsts ys := fun xs ys => List.map_append
    rw [a, a, foundR_fsts b _ ps, kids_fsts b base p []]
theorem fsts_sorted (ps : List (Tie × Row)) : (fsts (sortE ePair ps)).Pairwise fun a b => leE eTie a b = true := by
  unfold fsts
  rw [List.pairwise_map]
  exact (sortE_pair (e := ePair) ps).imp fun h => leTie_pair h
theorem fsts_sort (ps qs : List (Tie × Row)) (h : (fsts ps).Perm (fsts qs)) : fsts (sortE ePair ps) = fsts (sortE ePair qs) :=
  sorted_one enc_tie ((((sortE_perm (e := ePair) ps).map _).trans h).trans ((sortE_perm (e := ePair) qs).map _).symm) (fsts_sorted ps) (fsts_sorted qs)
theorem fsts_sortE (ps : List (Tie × Row)) : fsts (sortE ePair ps) = sortE eTie (fsts ps) :=
  sorted_one enc_tie (((sortE_perm (e := ePair) ps).map _).trans (sortE_perm (e := eTie) (fsts ps)).symm) (fsts_sorted ps) (sortE_pair _)
theorem round_lround (b : Book) (w : Web) : round b w = lround b w := by
  unfold round lround roundR
  have := fsts_sortE (foundR b w.1 (bare w.2))
  unfold fsts at this ⊢
  rw [this]
theorem stR_W (g : Gar) : ∀ n, (stR g n).1 = (W g n).1 ∧ fsts (stR g n).2 = (W g n).2
  | 0 => ⟨rfl, by
    show fsts ((num 0 g.1.2).map fun q => (q.2, [q.1])) = g.1.2
    unfold fsts
    rw [List.map_map]
    exact num_snd 0 g.1.2⟩
  | n + 1 => by
    obtain ⟨h1, h2⟩ := stR_W g n
    constructor
    · show endR g.2 (stR g n).1 (stR g n).2 = endR g.2 (W g n).1 (bare (W g n).2)
      rw [endR_fsts, h1, h2]
    · show fsts (sortE ePair (foundR g.2 (stR g n).1 (stR g n).2)) = fsts (sortE ePair (foundR g.2 (W g n).1 (bare (W g n).2)))
      refine fsts_sort _ _ ?_
      rw [foundR_fsts, h1, h2]
theorem stFit_of {g : Gar} {n : Nat} (f : Fits g n) : StFit g n := ⟨fun i h => by rw [(stR_W g i).1]; exact f.places i h, fun i h => by
  have := congrArg List.length (stR_W g i).2
  unfold fsts at this
  rw [List.length_map] at this
  rw [this]
  exact f.ties i h⟩
end L3
/-! Rows as a tree: items (the two ends' addresses, the kind, the row). -/
namespace L3
open PySem
abbrev Item := Adr × Adr × Nat × Row
def pickI (it : Item) (x : Nat) : Adr := if x = 0 then it.1 else if x = 1 then it.2.1 else (it.2.2.2, x)
def kidI (it : Item) (q : Nat × Tie) : Item := (pickI it q.2.1, pickI it q.2.2.1, q.2.2.2, it.2.2.2 ++ [q.1])
def kidsI (b : Book) (it : Item) : List Item := (num 0 (kd b it.2.2.1).2).map (kidI it)
def items (g : Gar) : Nat → List Item
  | 0 => (num 0 g.1.2).map fun q => (([], q.2.1), ([], q.2.2.1), q.2.2.2, [q.1])
  | n + 1 => (items g n).flatMap (kidsI g.2)
def adI : Adr := ([], 0)
def toItem (A : List Adr) (p : Tie × Row) : Item := (A.getD p.1.1 adI, A.getD p.1.2.1 adI, p.1.2.2, p.2)
def InA (n : Nat) (p : Tie × Row) : Prop := p.1.1 < n ∧ p.1.2.1 < n
theorem getD_app {A B : List Adr} {i : Nat} (h : i < A.length) : (A ++ B).getD i adI = A.getD i adI := by
  rw [List.getD_eq_getElem?_getD, List.getD_eq_getElem?_getD, List.getElem?_append_left h]
theorem toItem_app {A B : List Adr} {p : Tie × Row} (h : InA A.length p) : toItem (A ++ B) p = toItem A p := by
  unfold toItem
  rw [getD_app h.1, getD_app h.2]
/-- the items that a row's growth makes, told by the numbers of the places -/
theorem kids_items {b : Book} {A R : List Adr} {p : Tie × Row} (h : InA A.length p) (hk : ∀ t ∈ (kd b p.1.2.2).2, t.1 < (kd b p.1.2.2).1 ∧ t.2.1 < (kd b p.1.2.2).1) (n : Nat) (hn : A.length ≤ n) (M : List Adr) (hM : n = A.length + M.length) :
    (kids b n p).map (toItem (A ++ M ++ adrsOf b [p] ++ R)) = kidsI b (toItem A p) := by
  unfold kids kidsI
  rw [List.map_map]
  refine List.map_congr_left fun q hq => ?_
  have ht := hk q.2 (List.mem_of_getElem? (num_mem hq).2)
  have get : ∀ x, x < (kd b p.1.2.2).1 → (A ++ M ++ adrsOf b [p] ++ R).getD (nm p.1 n x) adI = pickI (toItem A p) x := by
    intro x hx
    unfold nm pickI
    by_cases h0 : x = 0
    · rw [if_pos h0, if_pos h0, List.append_assoc, List.append_assoc, getD_app h.1]
      rfl
    · rw [if_neg h0, if_neg h0]
      by_cases h1 : x = 1
      · rw [if_pos h1, if_pos h1, List.append_assoc, List.append_assoc, getD_app h.2]
        rfl
      · rw [if_neg h1, if_neg h1, adrsOf_one]
        have hl : (A ++ M).length = n := by rw [List.length_append, hM]
        rw [List.append_assoc, List.getD_eq_getElem?_getD, List.getElem?_append_right (by rw [hl]; omega), hl, List.getElem?_append_left (by rw [List.length_map, List.length_range]; unfold inn; omega), List.getElem?_map, List.getElem?_range (by unfold inn; omega)]
        show (p.2, 2 + (n + x - 2 - n)) = (p.2, x)
        rw [show 2 + (n + x - 2 - n) = x by omega]
  show toItem _ (kidOf p n q) = kidI (toItem A p) q
  unfold toItem kidOf kidI
  show ((A ++ M ++ adrsOf b [p] ++ R).getD (nm p.1 n q.2.1) adI, (A ++ M ++ adrsOf b [p] ++ R).getD (nm p.1 n q.2.2.1) adI, q.2.2.2, p.2 ++ [q.1]) = _
  rw [get _ ht.1, get _ ht.2]
  rfl
theorem found_items {b : Book} {A : List Adr} : ∀ (ps : List (Tie × Row)) (n : Nat) (M R : List Adr), (∀ p ∈ ps, InA A.length p ∧ ∀ t ∈ (kd b p.1.2.2).2, t.1 < (kd b p.1.2.2).1 ∧ t.2.1 < (kd b p.1.2.2).1) → n = A.length + M.length →
    (foundR b n ps).map (toItem (A ++ M ++ adrsOf b ps ++ R)) = (ps.map (toItem A)).flatMap (kidsI b)
  | [], _, _, _, _, _ => rfl
  | p :: ps, n, M, R, h, hn => by
    have e : adrsOf b (p :: ps) = adrsOf b [p] ++ adrsOf b ps := adrsOf_app b [p] ps
    have h1 := h p List.mem_cons_self
    have k := kids_items (b := b) (A := A) (R := adrsOf b ps ++ R) h1.1 h1.2 n (by omega) M hn
    have t := found_items ps (n + inn b p.1.2.2) (M ++ adrsOf b [p]) R (fun q hq => h q (List.mem_cons_of_mem _ hq)) (by rw [List.length_append, adrsOf_one, List.length_map, List.length_range]; omega)
    have e1 : A ++ M ++ adrsOf b (p :: ps) ++ R = A ++ M ++ adrsOf b [p] ++ (adrsOf b ps ++ R) := by rw [e]; simp
    have e2 : A ++ M ++ adrsOf b (p :: ps) ++ R = A ++ (M ++ adrsOf b [p]) ++ adrsOf b ps ++ R := by rw [e]; simp
    rw [foundR, List.map_append, List.map_cons, List.flatMap_cons, ← t, ← k, e1]
    congr 2
    rw [← e1, e2]
/-- the rows after n rounds are the items, told by numbers -/
theorem stR_items {g : Gar} (ok : GarOk g) : ∀ n, (((stR g n).2.map (toItem (allA g n))).Perm (items g n)) ∧ ∀ p ∈ (stR g n).2, InA (allA g n).length p
  | 0 => by
    constructor
    · show (((num 0 g.1.2).map fun q => (q.2, [q.1])).map (toItem ((List.range g.1.1).map fun p => ([], p)))).Perm ((num 0 g.1.2).map fun q => (([], q.2.1), ([], q.2.2.1), q.2.2.2, [q.1]))
      rw [List.map_map]
      refine List.Perm.of_eq (List.map_congr_left fun q hq => ?_)
      have ht := ok.start.ties _ (List.mem_of_getElem? (num_mem hq).2)
      have get : ∀ x, x < g.1.1 → ((List.range g.1.1).map fun p => (([] : Row), p)).getD x adI = ([], x) := fun x hx => by
        rw [List.getD_eq_getElem?_getD, List.getElem?_map, List.getElem?_range hx]
        rfl
      show (_, _, _, _) = _
      rw [get _ ht.a, get _ ht.b]
    · intro p hp
      obtain ⟨q, hq, rfl⟩ := List.mem_map.mp hp
      have ht := ok.start.ties _ (List.mem_of_getElem? (num_mem hq).2)
      show _ < ((List.range g.1.1).map _).length ∧ _ < ((List.range g.1.1).map _).length
      rw [List.length_map, List.length_range]
      exact ⟨ht.a, ht.b⟩
  | n + 1 => by
    obtain ⟨h1, h2⟩ := stR_items ok n
    have hk : ∀ p ∈ (stR g n).2, InA (allA g n).length p ∧ ∀ t ∈ (kd g.2 p.1.2.2).2, t.1 < (kd g.2 p.1.2.2).1 ∧ t.2.1 < (kd g.2 p.1.2.2).1 := fun p hp => ⟨h2 p hp, fun t ht => by
      have := ((ok.book.webs _ (kd_mem (stR_row ok n p hp).1)).1).ties t ht
      exact ⟨this.a, this.b⟩⟩
    have f := found_items (b := g.2) (A := allA g n) (stR g n).2 (stR g n).1 [] [] hk (by rw [allA_len]; rfl)
    rw [List.append_nil, List.append_nil] at f
    constructor
    · show ((sortE ePair (foundR g.2 (stR g n).1 (stR g n).2)).map (toItem (allA g n ++ adrsOf g.2 (stR g n).2))).Perm ((items g n).flatMap (kidsI g.2))
      refine ((sortE_perm (e := ePair) _).map _).trans ?_
      rw [f]
      exact h1.flatMap_right _
    · intro p hp
      have hp' : p ∈ foundR g.2 (stR g n).1 (stR g n).2 := sortE_mem.mp hp
      obtain ⟨p0, hp0, base', q, hq, rfl, hb1, hb2⟩ := foundR_mem2 hp'
      have hin := h2 p0 hp0
      rw [allA_len] at hin
      have kw := ok.book.webs _ (kd_mem (stR_row ok n p0 hp0).1)
      have ht := kw.1.ties _ (List.mem_of_getElem? (num_mem hq).2)
      rw [allA_len]
      exact ⟨nm_lt hin.1 hin.2 hb1 ht.a kw.2.1 hb2, nm_lt hin.1 hin.2 hb1 ht.b kw.2.1 hb2⟩
end L3
/-! A garden's items and addresses by those of single ties; all different. -/
namespace L3
open PySem
theorem flat_congr {α β : Type} {f g : α → List β} : ∀ {xs : List α}, (∀ x ∈ xs, f x = g x) → xs.flatMap f = xs.flatMap g
  | [], _ => rfl
  | x :: xs, h => by rw [List.flatMap_cons, List.flatMap_cons, h x List.mem_cons_self, flat_congr fun y hy => h y (List.mem_cons_of_mem _ hy)]
theorem flat_perm {α β : Type} {f g : α → List β} : ∀ {xs : List α}, (∀ x ∈ xs, (f x).Perm (g x)) → (xs.flatMap f).Perm (xs.flatMap g)
  | [], _ => .nil
  | x :: xs, h => by
    rw [List.flatMap_cons, List.flatMap_cons]
    exact (h x List.mem_cons_self).append (flat_perm fun y hy => h y (List.mem_cons_of_mem _ hy))
theorem flat_two {α β : Type} (f g : α → List β) : ∀ xs : List α, (xs.flatMap f ++ xs.flatMap g).Perm (xs.flatMap fun x => f x ++ g x)
  | [] => .nil
  | x :: xs => by
    rw [List.flatMap_cons, List.flatMap_cons, List.flatMap_cons]
    have ih := flat_two f g xs
    have h1 : (f x ++ xs.flatMap f ++ (g x ++ xs.flatMap g)).Perm (f x ++ (g x ++ (xs.flatMap f ++ xs.flatMap g))) := by
      rw [List.append_assoc]
      refine List.Perm.append_left _ ?_
      rw [← List.append_assoc, ← List.append_assoc]
      exact List.perm_append_comm.append_right _
    refine h1.trans ?_
    rw [List.append_assoc (f x)]
    exact (ih.append_left _).append_left _
/-! ### rows of the items -/
theorem item_row {g : Gar} : ∀ {n : Nat} {it : Item}, it ∈ items g n → it.2.2.2.length = n + 1
  | 0, it, h => by
    obtain ⟨q, _, rfl⟩ := List.mem_map.mp h
    rfl
  | n + 1, it, h => by
    obtain ⟨p, hp, h⟩ := List.mem_flatMap.mp h
    obtain ⟨q, _, rfl⟩ := List.mem_map.mp h
    show (p.2.2.2 ++ [q.1]).length = _
    rw [List.length_append, item_row hp]
    rfl
theorem num_fst_nodup {α : Type} : ∀ (k : Nat) (xs : List α), ((num k xs).map (·.1)).Nodup
  | _, [] => .nil
  | k, x :: xs => by
    rw [num, List.map_cons, List.nodup_cons]
    refine ⟨fun h => ?_, num_fst_nodup (k + 1) xs⟩
    obtain ⟨q, hq, e⟩ := List.mem_map.mp h
    have := (num_mem hq).1
    have e' : q.1 = k := e
    omega
theorem rows_nodup (g : Gar) : ∀ n, ((items g n).map (·.2.2.2)).Nodup
  | 0 => by
    show (((num 0 g.1.2).map _).map _).Nodup
    rw [List.map_map]
    have h := num_fst_nodup 0 g.1.2
    have e : (num 0 g.1.2).map ((fun it : Item => it.2.2.2) ∘ fun q => (([], q.2.1), ([], q.2.2.1), q.2.2.2, [q.1])) = ((num 0 g.1.2).map (·.1)).map fun x => [x] := by
      rw [List.map_map]
      rfl
    rw [e]
    unfold List.Nodup at h ⊢
    rw [List.pairwise_map]
    exact h.imp fun h z => h (List.cons.inj z).1
  | n + 1 => by
    have ih := rows_nodup g n
    show (((items g n).flatMap (kidsI g.2)).map _).Nodup
    rw [List.map_flatMap]
    unfold List.Nodup at ih ⊢
    rw [List.pairwise_map] at ih
    rw [List.pairwise_flatMap]
    constructor
    · intro it _
      unfold kidsI
      rw [List.map_map]
      have h := num_fst_nodup 0 (kd g.2 it.2.2.1).2
      have e : (num 0 (kd g.2 it.2.2.1).2).map ((fun it : Item => it.2.2.2) ∘ kidI it) = ((num 0 (kd g.2 it.2.2.1).2).map (·.1)).map fun x => it.2.2.2 ++ [x] := by
        rw [List.map_map]
        rfl
      rw [e]
      unfold List.Nodup at h
      rw [List.pairwise_map]
      exact h.imp fun h z => h (by simpa using z)
    · refine ih.imp fun {a b} h x hx y hy z => ?_
      obtain ⟨i1, h1, rfl⟩ := List.mem_map.mp hx
      obtain ⟨q1, _, rfl⟩ := List.mem_map.mp h1
      obtain ⟨i2, h2, rfl⟩ := List.mem_map.mp hy
      obtain ⟨q2, _, rfl⟩ := List.mem_map.mp h2
      exact h (List.append_inj' z rfl).1
/-! ### the addresses -/
def newI (b : Book) (it : Item) : List Adr := (List.range (inn b it.2.2.1)).map fun j => (it.2.2.2, 2 + j)
def adN (g : Gar) : Nat → List Adr
  | 0 => []
  | n + 1 => adN g n ++ (items g n).flatMap (newI g.2)
def ad0 (k : Nat) : List Adr := (List.range k).map fun p => ([], p)
theorem allA_pre {g : Gar} (ok : GarOk g) : ∀ n, ∃ R, allA g n = ad0 g.1.1 ++ R ∧ R.Perm (adN g n)
  | 0 => ⟨[], by rw [List.append_nil]; rfl, .nil⟩
  | n + 1 => by
    obtain ⟨R, e, p⟩ := allA_pre ok n
    refine ⟨R ++ adrsOf g.2 (stR g n).2, ?_, ?_⟩
    · show allA g n ++ _ = _
      rw [e, List.append_assoc]
    · have e2 : adrsOf g.2 (stR g n).2 = ((stR g n).2.map (toItem (allA g n))).flatMap (newI g.2) := by
        rw [List.flatMap_map]
        rfl
      rw [e2]
      exact p.append ((stR_items ok n).1.flatMap_right _)
theorem adN_row {g : Gar} : ∀ {n : Nat} {a : Adr}, a ∈ adN g n → a.1 ≠ [] ∧ a.1.length ≤ n ∧ 2 ≤ a.2
  | n + 1, a, h => by
    rcases List.mem_append.mp h with h | h
    · obtain ⟨h1, h2, h3⟩ := adN_row h
      exact ⟨h1, by omega, h3⟩
    · obtain ⟨it, hi, h⟩ := List.mem_flatMap.mp h
      obtain ⟨j, _, rfl⟩ := List.mem_map.mp h
      have := item_row hi
      exact ⟨fun z => by rw [show it.2.2.2 = [] from z] at this; simp at this, by show it.2.2.2.length ≤ _; omega, by show 2 ≤ 2 + j; omega⟩
theorem adN_nodup (g : Gar) : ∀ n, (adN g n).Nodup
  | 0 => .nil
  | n + 1 => by
    show (adN g n ++ _).Nodup
    rw [List.nodup_append]
    refine ⟨adN_nodup g n, ?_, fun a ha b hb z => ?_⟩
    · have h := rows_nodup g n
      unfold List.Nodup at h ⊢
      rw [List.pairwise_map] at h
      rw [List.pairwise_flatMap]
      constructor
      · intro it _
        unfold newI
        rw [List.pairwise_map]
        exact List.nodup_range.imp fun h z => h (by have := (Prod.mk.inj z).2; omega)
      · refine h.imp fun {a b} h x hx y hy z => ?_
        obtain ⟨j1, _, rfl⟩ := List.mem_map.mp hx
        obtain ⟨j2, _, rfl⟩ := List.mem_map.mp hy
        exact h (Prod.mk.inj z).1
    · subst z
      have h1 := (adN_row ha).2.1
      obtain ⟨it, hi, h⟩ := List.mem_flatMap.mp hb
      obtain ⟨j, _, rfl⟩ := List.mem_map.mp h
      have h2 := item_row hi
      have h3 : it.2.2.2.length ≤ n := h1
      omega
theorem allA_nodup {g : Gar} (ok : GarOk g) (n : Nat) : (allA g n).Nodup := by
  obtain ⟨R, e, p⟩ := allA_pre ok n
  rw [e, List.nodup_append]
  refine ⟨?_, p.nodup_iff.mpr (adN_nodup g n), fun a ha b hb z => ?_⟩
  · unfold ad0 List.Nodup
    rw [List.pairwise_map]
    exact List.nodup_range.imp fun h z => h (Prod.mk.inj z).2
  · subst z
    obtain ⟨j, _, rfl⟩ := List.mem_map.mp ha
    exact (adN_row (p.mem_iff.mp hb)).1 rfl
theorem firstAt_of {A : List Adr} (nd : A.Nodup) {a : Adr} {j : Nat} (h : A[j]? = some a) : FirstAt A a j := by
  refine ⟨h, fun m hm z => ?_⟩
  obtain ⟨h1, e1⟩ := List.getElem?_eq_some_iff.mp h
  obtain ⟨h2, e2⟩ := List.getElem?_eq_some_iff.mp z
  exact absurd ((List.getElem_inj nd).mp (e2.trans e1.symm)) (by omega)
/-- the number of an address -/
def ixA (A : List Adr) (a : Adr) : Nat := A.idxOf a
theorem ixA_get {A : List Adr} (nd : A.Nodup) {a : Adr} {j : Nat} (h : A[j]? = some a) : ixA A a = j := by
  obtain ⟨h1, e1⟩ := List.getElem?_eq_some_iff.mp h
  rw [← e1]
  exact nd.idxOf_getElem j h1
theorem get_ixA {A : List Adr} {a : Adr} (h : a ∈ A) : A[ixA A a]? = some a := by
  have hl := List.idxOf_lt_length_iff.mpr h
  exact List.getElem?_eq_some_iff.mpr ⟨hl, List.getElem_idxOf hl⟩
/-! ### below a row of the start -/
def phiA (q : Nat × Tie) (a : Adr) : Adr := match a.1 with
  | [] => if a.2 = 0 then ([], q.2.1) else ([], q.2.2.1)
  | _ :: r => (q.1 :: r, a.2)
def phiI (q : Nat × Tie) (it : Item) : Item := (phiA q it.1, phiA q it.2.1, it.2.2.1, q.1 :: it.2.2.2.drop 1)
theorem kids_phi {b : Book} {q : Nat × Tie} {it : Item} (h : it.2.2.2 ≠ []) : kidsI b (phiI q it) = (kidsI b it).map (phiI q) := by
  unfold kidsI
  rw [List.map_map]
  refine List.map_congr_left fun t _ => ?_
  obtain ⟨e0, e1, c, row⟩ := it
  cases row with
  | nil => exact absurd rfl h
  | cons r row =>
    have pk : ∀ x, pickI (phiI q (e0, e1, c, r :: row)) x = phiA q (pickI (e0, e1, c, r :: row) x) := fun x => by
      unfold pickI
      by_cases h0 : x = 0
      · rw [if_pos h0, if_pos h0]
        rfl
      · rw [if_neg h0, if_neg h0]
        by_cases h1 : x = 1
        · rw [if_pos h1, if_pos h1]
          rfl
        · rw [if_neg h1, if_neg h1]
          rfl
    show kidI _ _ = phiI q (kidI _ _)
    unfold kidI
    rw [pk, pk]
    rfl
theorem items_phi (g : Gar) : ∀ n, items g n = (num 0 g.1.2).flatMap fun q => (items (single g.2 q.2.2.2) n).map (phiI q)
  | 0 => by
    show (num 0 g.1.2).map _ = _
    rw [List.map_eq_flatMap]
    rfl
  | n + 1 => by
    show (items g n).flatMap (kidsI g.2) = _
    rw [items_phi g n, List.flatMap_assoc]
    refine flat_congr fun q _ => ?_
    rw [List.flatMap_map]
    show _ = ((items (single g.2 q.2.2.2) n).flatMap (kidsI g.2)).map (phiI q)
    rw [List.map_flatMap]
    refine flat_congr fun it hit => kids_phi fun z => ?_
    have := item_row hit
    rw [z] at this
    simp at this
theorem new_phi {b : Book} {q : Nat × Tie} {it : Item} : newI b (phiI q it) = (newI b it).map (toRow q.1) := by
  unfold newI
  rw [List.map_map]
  rfl
theorem adN_phi (g : Gar) : ∀ n, (adN g n).Perm ((num 0 g.1.2).flatMap fun q => (adN (single g.2 q.2.2.2) n).map (toRow q.1))
  | 0 => by
    have : ((num 0 g.1.2).flatMap fun q => (adN (single g.2 q.2.2.2) 0).map (toRow q.1)) = [] := by simp [adN]
    rw [this]
    exact .nil
  | n + 1 => by
    have e : (items g n).flatMap (newI g.2) = (num 0 g.1.2).flatMap fun q => ((items (single g.2 q.2.2.2) n).flatMap (newI g.2)).map (toRow q.1) := by
      rw [items_phi g n, List.flatMap_assoc]
      refine flat_congr fun q _ => ?_
      rw [List.flatMap_map, List.map_flatMap]
      exact flat_congr fun it _ => new_phi
    show (adN g n ++ (items g n).flatMap (newI g.2)).Perm _
    rw [e]
    refine ((adN_phi g n).append_right _).trans ((flat_two _ _ _).trans (List.Perm.of_eq ?_))
    refine flat_congr fun q _ => ?_
    rw [← List.map_append]
    rfl
end L3
/-! What the items know of the garden: their rows, kinds, ends. -/
namespace L3
open PySem
theorem tieG_of {w : Web} {i : Nat} {t : Tie} (h : w.2[i]? = some t) : tieG w i = t := by
  unfold tieG
  rw [List.getD_eq_getElem?_getD, h]
  rfl
theorem num_at {α : Type} {xs : List α} {q : Nat × α} (h : q ∈ num 0 xs) : xs[q.1]? = some q.2 := (num_mem h).2
theorem endStep_pre {b : Book} {row rs : Row} {i : Nat} (h : i < row.length) (s : Ends3) : endStep b (row ++ rs) i s = endStep b row i s := by
  unfold endStep
  have e1 : (row ++ rs).take i = row.take i := List.take_append_of_le_length (by omega)
  have e2 : (row ++ rs).getD i 0 = row.getD i 0 := by
    rw [List.getD_eq_getElem?_getD, List.getD_eq_getElem?_getD, List.getElem?_append_left h]
  rw [e1, e2]
theorem endsI_pre {g : Gar} {row rs : Row} : ∀ {m : Nat}, m < row.length → endsI g (row ++ rs) m = endsI g row m
  | 0, h => by
    have e2 : (row ++ rs).getD 0 0 = row.getD 0 0 := by
      rw [List.getD_eq_getElem?_getD, List.getD_eq_getElem?_getD, List.getElem?_append_left h]
    unfold endsI
    rw [e2]
  | m + 1, h => by
    unfold endsI
    rw [endsI_pre (by omega), endStep_pre h]
theorem item_in {g : Gar} (ok : GarOk g) : ∀ (n : Nat) (it : Item), it ∈ items g n → RowIn g.2 g.1 it.2.2.2 ∧ kindOf g it.2.2.2 = it.2.2.1 ∧ it.2.2.1 < g.2.length ∧ endsI g it.2.2.2 n = (it.1, it.2.1, it.2.2.1)
  | 0, it, h => by
    obtain ⟨q, hq, rfl⟩ := List.mem_map.mp h
    have e := num_at hq
    have t := tieG_of e
    refine ⟨⟨(List.getElem?_eq_some_iff.mp e).1, True.intro⟩, ?_, ok.below _ (List.mem_of_getElem? e), ?_⟩
    · have := kindOf_snoc g [] q.1
      rw [List.nil_append] at this
      rw [this]
      show (tieG g.1 q.1).2.2 = _
      rw [t]
    · show (([], (tieG g.1 q.1).1), ([], (tieG g.1 q.1).2.1), (tieG g.1 q.1).2.2) = _
      rw [t]
  | n + 1, it, h => by
    obtain ⟨p, hp, h⟩ := List.mem_flatMap.mp h
    obtain ⟨q, hq, rfl⟩ := List.mem_map.mp h
    obtain ⟨h1, h2, h3, h4⟩ := item_in ok n p hp
    have hl := item_row hp
    have ne : p.2.2.2 ≠ [] := fun z => by rw [z] at hl; simp at hl
    have e := num_at hq
    have t := tieG_of e
    have hw := webAt_kind (g := g) ne
    rw [h2] at hw
    refine ⟨?_, ?_, (ok.book.webs _ (kd_mem h3)).2.2 _ (List.mem_of_getElem? e), ?_⟩
    · refine rowIn_snoc _ _ _ _ h1 ?_
      rw [hw]
      exact (List.getElem?_eq_some_iff.mp e).1
    · show kindOf g (p.2.2.2 ++ [q.1]) = _
      rw [kindOf_snoc, hw, t]
      rfl
    · show endStep g.2 (p.2.2.2 ++ [q.1]) (n + 1) (endsI g (p.2.2.2 ++ [q.1]) n) = _
      rw [endsI_pre (by omega), h4]
      unfold endStep
      have e1 : (p.2.2.2 ++ [q.1]).take (n + 1) = p.2.2.2 := by
        rw [← hl, List.take_append_of_le_length (Nat.le_refl _), List.take_length]
      have e2 : (p.2.2.2 ++ [q.1]).getD (n + 1) 0 = q.1 := by
        rw [List.getD_eq_getElem?_getD, List.getElem?_append_right (by omega), hl, Nat.sub_self]
        rfl
      rw [e1, e2]
      show (pick _ _ (tieG (kd g.2 p.2.2.1) q.1).1, pick _ _ (tieG (kd g.2 p.2.2.1) q.1).2.1, (tieG (kd g.2 p.2.2.1) q.1).2.2) = _
      rw [t]
      rfl
theorem adN_ok {g : Gar} (ok : GarOk g) : ∀ {n : Nat}, n ≤ 900 → ∀ {a : Adr}, a ∈ adN g n → AdrOk g a
  | n + 1, hn, a, h => by
    rcases List.mem_append.mp h with h | h
    · exact adN_ok ok (by omega) h
    · obtain ⟨it, hi, h⟩ := List.mem_flatMap.mp h
      obtain ⟨j, hj, rfl⟩ := List.mem_map.mp h
      obtain ⟨h1, h2, h3, _⟩ := item_in ok n it hi
      have hl := item_row hi
      have hj' := List.mem_range.mp hj
      unfold inn at hj'
      refine .inr ⟨fun z => by rw [show it.2.2.2 = [] from z] at hl; simp at hl, h1, by show it.2.2.2.length ≤ 1000; omega, by show 2 ≤ 2 + j; omega, ?_⟩
      show 2 + j < (kd g.2 (kindOf g it.2.2.2)).1
      rw [h2]
      omega
theorem allA_ok {g : Gar} (ok : GarOk g) {n : Nat} (hn : n ≤ 900) {a : Adr} (h : a ∈ allA g n) : AdrOk g a ∧ a.1.length ≤ n := by
  obtain ⟨R, e, p⟩ := allA_pre ok n
  rw [e] at h
  rcases List.mem_append.mp h with h | h
  · obtain ⟨j, hj, rfl⟩ := List.mem_map.mp h
    exact ⟨.inl ⟨rfl, List.mem_range.mp hj⟩, Nat.zero_le _⟩
  · have h' := p.mem_iff.mp h
    exact ⟨adN_ok ok hn h', (adN_row h').2.1⟩
/-- a row of the garden, as items tell it -/
theorem row_item {g : Gar} (ok : GarOk g) {n : Nat} {p : Tie × Row} (h : p ∈ (stR g n).2) : ∃ a e, (allA g n)[p.1.1]? = some a ∧ (allA g n)[p.1.2.1]? = some e ∧ (a, e, p.1.2.2, p.2) ∈ items g n := by
  obtain ⟨h1, h2⟩ := stR_items ok n
  have hm := h1.mem_iff.mp (List.mem_map_of_mem h)
  obtain ⟨i1, i2⟩ := h2 p h
  refine ⟨_, _, List.getElem?_eq_getElem i1, List.getElem?_eq_getElem i2, ?_⟩
  have e1 : (allA g n).getD p.1.1 adI = (allA g n)[p.1.1] := by rw [List.getD_eq_getElem?_getD, List.getElem?_eq_getElem i1]; rfl
  have e2 : (allA g n).getD p.1.2.1 adI = (allA g n)[p.1.2.1] := by rw [List.getD_eq_getElem?_getD, List.getElem?_eq_getElem i2]; rfl
  unfold toItem at hm
  rw [e1, e2] at hm
  exact hm
theorem single_ok {b : Book} (bk : BookOk b) {c : Nat} (h : c < b.length) : GarOk (single b c) := by
  have h3 := bk.few
  refine ⟨⟨by show 1 ≤ 2; decide, by show 2 ≤ 400; decide, fun t ht => ?_, ?_, by show 1 ≤ 600; decide⟩, ⟨by show 2 ≤ 7; decide, by show 1 ≤ 10; decide⟩, bk, fun t ht => ?_⟩
  · obtain rfl : t = (0, 1, c) := by simpa [single] using ht
    exact ⟨by show 0 < 2; decide, by show 1 < 2; decide, by show 0 ≠ 1; decide, by show c < 3; omega⟩
  · exact List.pairwise_singleton _ _
  · obtain rfl : t = (0, 1, c) := by simpa [single] using ht
    exact h
end L3
/-! The renaming, and the web to which it leads. -/
namespace L3
open PySem
abbrev ixG (g : Gar) (n : Nat) : Adr → Nat := ixA (allA g n)
/-- the addresses in the renaming's order -/
def lstB (g : Gar) (n : Nat) (q : Nat × Tie) : List Adr := ((allA (single g.2 q.2.2.2) n).drop 2).map (toRow q.1)
theorem ad0_two : ad0 2 = [([], 0), ([], 1)] := rfl
theorem single_pre {b : Book} (bk : BookOk b) {c : Nat} (h : c < b.length) (n : Nat) : ∃ R, allA (single b c) n = ([], 0) :: ([], 1) :: R ∧ R.Perm (adN (single b c) n) := by
  obtain ⟨R, e, p⟩ := allA_pre (single_ok bk h) n
  exact ⟨R, e, p⟩
theorem kind_q {g : Gar} (ok : GarOk g) {q : Nat × Tie} (h : q ∈ num 0 g.1.2) : q.2.2.2 < g.2.length := ok.below _ (List.mem_of_getElem? (num_at h))
theorem all_perm {g : Gar} (ok : GarOk g) (n : Nat) : (ad0 g.1.1 ++ (num 0 g.1.2).flatMap (lstB g n)).Perm (allA g n) := by
  obtain ⟨R, e, p⟩ := allA_pre ok n
  rw [e]
  refine (List.Perm.symm ((p.trans (adN_phi g n)).trans ?_)).append_left _
  refine flat_perm fun q hq => ?_
  obtain ⟨R, e, p⟩ := single_pre ok.book (kind_q ok hq) n
  unfold lstB
  rw [e]
  exact (p.map _).symm
theorem drop_range {α β : Type} (f : α → β) (d : α) (l : List α) (k : Nat) : (List.range (l.length - k)).map (fun j => f (l.getD (k + j) d)) = (l.drop k).map f := by
  refine List.ext_getElem? fun i => ?_
  by_cases h : i < l.length - k
  · rw [List.getElem?_map, List.getElem?_range h, List.getElem?_map, List.getElem?_drop, List.getElem?_eq_getElem (by omega)]
    show some (f (l.getD (k + i) d)) = some (f _)
    rw [List.getD_eq_getElem?_getD, List.getElem?_eq_getElem (by omega)]
    rfl
  · rw [List.getElem?_eq_none (by simp; omega), List.getElem?_eq_none (by simp; omega)]
theorem allA_W (g : Gar) (n : Nat) : (allA g n).length = (W g n).1 := by rw [allA_len, (stR_W g n).1]
theorem renPart_eq (g : Gar) (n : Nat) (ix : Adr → Nat) (q : Nat × Tie) : renPart g n ix q = (lstB g n q).map ix := by
  unfold renPart lstB
  rw [← allA_W, drop_range (fun a => ix (toRow q.1 a)) ([], 0), List.map_map]
  rfl
theorem ix_start {g : Gar} (ok : GarOk g) (n : Nat) {p : Nat} (h : p < g.1.1) : (allA g n)[p]? = some ([], p) ∧ ixG g n ([], p) = p := by
  have e0 : (allA g n)[p]? = some ([], p) := by
    obtain ⟨R, e, _⟩ := allA_pre ok n
    rw [e, List.getElem?_append_left (by simp [ad0]; exact h)]
    unfold ad0
    rw [List.getElem?_map, List.getElem?_range h]
    rfl
  exact ⟨e0, ixA_get (allA_nodup ok n) e0⟩
theorem renF_eq {g : Gar} (ok : GarOk g) (n : Nat) : renF g n (ixG g n) = (ad0 g.1.1 ++ (num 0 g.1.2).flatMap (lstB g n)).map (ixG g n) := by
  unfold renF
  rw [List.map_append, List.map_flatMap]
  have e1 : List.range g.1.1 = (ad0 g.1.1).map (ixG g n) := by
    unfold ad0
    rw [List.map_map]
    refine List.ext_getElem? fun i => ?_
    rw [List.getElem?_map]
    by_cases h : i < g.1.1
    · rw [List.getElem?_range h]
      show some i = some (ixG g n ([], i))
      rw [(ix_start ok n h).2]
    · rw [List.getElem?_eq_none (by simp; omega)]
      rfl
  rw [← e1]
  congr 1
  exact flat_congr fun q _ => renPart_eq g n _ q
theorem ix_all {A : List Adr} (nd : A.Nodup) : A.map (ixA A) = List.range A.length := by
  refine List.ext_getElem? fun i => ?_
  rw [List.getElem?_map]
  by_cases h : i < A.length
  · rw [List.getElem?_range h, List.getElem?_eq_getElem h]
    show some _ = _
    rw [ixA_get nd (List.getElem?_eq_getElem h)]
  · rw [List.getElem?_eq_none (by omega), List.getElem?_eq_none (by simp; omega)]
    rfl
theorem renF_perm {g : Gar} (ok : GarOk g) (n : Nat) : (renF g n (ixG g n)).Perm (List.range (W g n).1) := by
  rw [renF_eq ok n, ← allA_W, ← ix_all (allA_nodup ok n)]
  exact (all_perm ok n).map _
theorem lstB_mem {g : Gar} (ok : GarOk g) (n : Nat) {q : Nat × Tie} (hq : q ∈ num 0 g.1.2) {a : Adr} (h : a ∈ lstB g n q) : a ∈ allA g n := (all_perm ok n).mem_iff.mp (List.mem_append_right _ (List.mem_flatMap.mpr ⟨q, hq, h⟩))
/-- a web in the place of each kind, as large as n rounds make of one tie -/
def PowOk (g : Gar) (pw : Book) (n : Nat) : Prop := ∀ t ∈ g.1.2, t.2.2 < pw.length ∧ kd pw t.2.2 = W (single g.2 t.2.2) n
theorem renOk_of {g : Gar} {pw : Book} {n : Nat} (run : Run g n) (pk : PowOk g pw n) (each : ∀ c, c < g.2.length → Run (single g.2 c) n) : RenOk g pw n (ixG g n) := by
  have ok := run.ok
  refine ⟨run, fun t ht => ⟨(pk t ht).1, by rw [(pk t ht).2], each _ (ok.below t ht)⟩, fun q hq j hj => ?_⟩
  have hc := kind_q ok hq
  have r1 := each _ hc
  rw [← allA_W] at hj
  have hlt : 2 + j < (allA (single g.2 q.2.2.2) n).length := by omega
  refine ⟨_, List.getElem?_eq_getElem hlt, ?_⟩
  have hm : (allA (single g.2 q.2.2.2) n)[2 + j] ∈ allA (single g.2 q.2.2.2) n := List.getElem_mem _
  have o1 := allA_ok r1.ok r1.n9 hm
  have hB : toRow q.1 (allA (single g.2 q.2.2.2) n)[2 + j] ∈ lstB g n q := by
    unfold lstB
    refine List.mem_map_of_mem ?_
    refine List.mem_of_getElem? (i := j) ?_
    rw [List.getElem?_drop]
    exact List.getElem?_eq_getElem hlt
  have hA := lstB_mem ok n hq hB
  have o2 := allA_ok ok run.n9 hA
  have := run.n9
  exact ⟨by omega, o2.1, o2.2, firstAt_of (allA_nodup ok n) (get_ixA hA)⟩
/-! ### led -/
theorem num_mapS {α β : Type} (f : α → β) (k : Nat) (xs : List α) : xs.map f = (num k xs).map fun q => f q.2 := by
  have h : (num k xs).map (fun q => f q.2) = ((num k xs).map (·.2)).map f := by
    rw [List.map_map]
    rfl
  rw [h, num_snd]
def renT (ren : List Nat) (t : Tie) : Tie := (ren.getD t.1 0, ren.getD t.2.1 0, t.2.2)
def ledF (v : Web) (ren : List Nat) : Web := (v.1, sortE eTie (v.2.map fun t => (ren.getD t.1 0, ren.getD t.2.1 0, t.2.2)))
theorem getD_nat {A B : List Nat} {i : Nat} (h : i < A.length) : (A ++ B).getD i 0 = A.getD i 0 := by
  rw [List.getD_eq_getElem?_getD, List.getD_eq_getElem?_getD, List.getElem?_append_left h]
/-- a tie of the growth in the place of a tie of the start -/
def inT (g : Gar) (n : Nat) (q : Nat × Tie) (s : Tie) : Tie := (ixG g n (phiA q ((allA (single g.2 q.2.2.2) n).getD s.1 adI)), ixG g n (phiA q ((allA (single g.2 q.2.2.2) n).getD s.2.1 adI)), s.2.2)
theorem led_name {g : Gar} {pw : Book} {n : Nat} (ok : GarOk g) {k : Nat} {t : Tie} (hq : (k, t) ∈ num 0 g.1.2) {P R : List Nat} (hP : ∀ x, x < g.1.1 → P[x]? = some x) {x : Nat} (hx : x < (W (single g.2 t.2.2) n).1) :
    (P ++ renPart g n (ixG g n) (k, t) ++ R).getD (nm t P.length x) 0 = ixG g n (phiA (k, t) ((allA (single g.2 t.2.2) n).getD x adI)) := by
  have hc := kind_q ok hq
  have tk := ok.start.ties _ (List.mem_of_getElem? (num_at hq))
  obtain ⟨S, eS, pS⟩ := single_pre ok.book hc n
  have low : ∀ y, y < g.1.1 → (P ++ renPart g n (ixG g n) (k, t) ++ R).getD y 0 = y := fun y hy => by
    have h1 := hP y hy
    rw [List.append_assoc, getD_nat (List.getElem?_eq_some_iff.mp h1).1, List.getD_eq_getElem?_getD, h1]
    rfl
  unfold nm
  by_cases h0 : x = 0
  · rw [if_pos h0, low _ tk.a, h0, eS]
    exact (ix_start ok n tk.a).2.symm
  · rw [if_neg h0]
    by_cases h1 : x = 1
    · rw [if_pos h1, low _ tk.b, h1, eS]
      exact (ix_start ok n tk.b).2.symm
    · rw [if_neg h1]
      have hl : x < (allA (single g.2 t.2.2) n).length := by rw [allA_W]; exact hx
      have hx2 : x - 2 < (lstB g n (k, t)).length := by
        unfold lstB
        rw [List.length_map, List.length_drop]
        show x - 2 < (allA (single g.2 t.2.2) n).length - 2
        omega
      rw [renPart_eq, List.append_assoc, List.getD_eq_getElem?_getD, List.getElem?_append_right (by omega), List.getElem?_append_left (by rw [List.length_map]; omega), List.getElem?_map]
      have e1 : P.length + x - 2 - P.length = x - 2 := by omega
      have e2 : (lstB g n (k, t))[x - 2]? = some (toRow k ((allA (single g.2 t.2.2) n)[x])) := by
        unfold lstB
        rw [List.getElem?_map, List.getElem?_drop]
        show ((allA (single g.2 t.2.2) n)[2 + (x - 2)]?).map _ = _
        rw [show 2 + (x - 2) = x by omega, List.getElem?_eq_getElem hl]
        rfl
      rw [e1, e2]
      show ixG g n (toRow k _) = _
      rw [List.getD_eq_getElem?_getD, List.getElem?_eq_getElem hl]
      show ixG g n (toRow k _) = ixG g n (phiA (k, t) _)
      congr 1
      have hm : (allA (single g.2 t.2.2) n)[x] ∈ S := by
        have h2 : (allA (single g.2 t.2.2) n)[x]? = some (allA (single g.2 t.2.2) n)[x] := List.getElem?_eq_getElem hl
        generalize (allA (single g.2 t.2.2) n)[x] = a at h2
        rw [eS] at h2
        obtain ⟨y, rfl⟩ : ∃ y, x = y + 2 := ⟨x - 2, by omega⟩
        rw [List.getElem?_cons_succ, List.getElem?_cons_succ] at h2
        exact List.mem_of_getElem? h2
      have hne := (adN_row (pS.mem_iff.mp hm)).1
      revert hne
      generalize (allA (single g.2 t.2.2) n)[x] = a
      intro hne
      obtain ⟨r, j⟩ := a
      cases r with
      | nil => exact absurd rfl hne
      | cons y r => rfl
theorem led_found {g : Gar} {pw : Book} {n : Nat} (ok : GarOk g) (pk : PowOk g pw n) (wk : ∀ c, c < g.2.length → WebOk (W (single g.2 c) n)) : ∀ (ts : List Tie) (k : Nat) (P : List Nat), (∀ q ∈ num k ts, q ∈ num 0 g.1.2) → g.1.1 ≤ P.length → (∀ x, x < g.1.1 → P[x]? = some x) →
    (fsts (foundR pw P.length (bare ts))).map (renT (P ++ (num k ts).flatMap (renPart g n (ixG g n)))) = (num k ts).flatMap fun q => (W (single g.2 q.2.2.2) n).2.map (inT g n q)
  | [], _, _, _, _, _ => rfl
  | t :: ts, k, P, hq, hl, hP => by
    have hq0 := hq (k, t) List.mem_cons_self
    have ht : t ∈ g.1.2 := List.mem_of_getElem? (num_at hq0)
    obtain ⟨p1, p2⟩ := pk t ht
    have hb : bare (t :: ts) = (t, []) :: bare ts := rfl
    rw [hb, foundR, num, List.flatMap_cons, List.flatMap_cons]
    have a : ∀ xs ys : List (Tie × Row), fsts (xs ++ ys) = fsts xs ++ fsts ys := fun xs ys => List.map_append
    rw [a, List.map_append]
    have hlen : (renPart g n (ixG g n) (k, t)).length = inn pw t.2.2 := by
      unfold renPart inn
      rw [List.length_map, List.length_range, p2]
    have ih := led_found ok pk wk ts (k + 1) (P ++ renPart g n (ixG g n) (k, t)) (fun q h => hq q (List.mem_cons_of_mem _ h)) (by rw [List.length_append]; omega) (fun x hx => by
      have h1 := hP x hx
      rw [List.getElem?_append_left (List.getElem?_eq_some_iff.mp h1).1]
      exact h1)
    rw [List.length_append, hlen] at ih
    rw [← List.append_assoc]
    congr 1
    unfold kids fsts
    rw [List.map_map, List.map_map]
    show (num 0 (kd pw t.2.2).2).map _ = _
    rw [p2]
    rw [num_mapS (inT g n (k, t)) 0]
    refine List.map_congr_left fun s hs => ?_
    have sk := (wk _ (ok.below t ht)).ties _ (List.mem_of_getElem? (num_at hs))
    show ((P ++ renPart g n (ixG g n) (k, t) ++ (num (k + 1) ts).flatMap (renPart g n (ixG g n))).getD (nm t P.length s.2.1) 0, (P ++ renPart g n (ixG g n) (k, t) ++ (num (k + 1) ts).flatMap (renPart g n (ixG g n))).getD (nm t P.length s.2.2.1) 0, s.2.2.2) = _
    rw [led_name (pw := pw) ok hq0 hP sk.a, led_name (pw := pw) ok hq0 hP sk.b]
    rfl
theorem led_made {g : Gar} {pw : Book} {n : Nat} (ok : GarOk g) (pk : PowOk g pw n) (wk : ∀ c, c < g.2.length → WebOk (W (single g.2 c) n)) (fk : WebOk (W g n)) : ledF (lround pw g.1) (renF g n (ixG g n)) = W g n := by
  have eP : (lround pw g.1).1 = (W g n).1 := by
    have h1 := (renF_perm ok n).length_eq
    rw [List.length_range] at h1
    rw [← h1]
    show endR pw g.1.1 (bare g.1.2) = _
    rw [endR_sum]
    unfold renF bare
    rw [List.length_append, List.length_range, List.map_map, List.length_flatMap]
    congr 2
    rw [num_mapS ((fun p : Tie × Row => inn pw p.1.2.2) ∘ fun t => (t, [])) 0]
    refine List.map_congr_left fun q hq => ?_
    unfold renPart inn
    rw [List.length_map, List.length_range, ← (pk q.2 (List.mem_of_getElem? (num_at hq))).2]
    rfl
  have lf := led_found ok pk wk g.1.2 0 (List.range g.1.1) (fun _ h => h) (by rw [List.length_range]; exact Nat.le_refl _) (fun x hx => List.getElem?_range hx)
  rw [List.length_range] at lf
  have ir := (stR_items ok n).1
  have nd := allA_nodup ok n
  -- the web's ties, by the items
  have w1 : (W g n).2.Perm ((items g n).map fun it => (ixG g n it.1, ixG g n it.2.1, it.2.2.1)) := by
    refine List.Perm.trans ?_ (ir.map _)
    rw [List.map_map, ← (stR_W g n).2]
    unfold fsts
    refine List.Perm.of_eq (List.map_congr_left fun p hp => ?_)
    obtain ⟨a, e, h1, h2, _⟩ := row_item ok hp
    show p.1 = (ixA _ ((allA g n).getD p.1.1 adI), ixA _ ((allA g n).getD p.1.2.1 adI), p.1.2.2)
    rw [List.getD_eq_getElem?_getD, List.getD_eq_getElem?_getD, h1, h2]
    show p.1 = (ixA _ a, ixA _ e, p.1.2.2)
    rw [ixA_get nd h1, ixA_get nd h2]
  have w2 : ((items g n).map fun it => (ixG g n it.1, ixG g n it.2.1, it.2.2.1)).Perm ((num 0 g.1.2).flatMap fun q => (W (single g.2 q.2.2.2) n).2.map (inT g n q)) := by
    rw [items_phi g n, List.map_flatMap]
    refine flat_perm fun q hq => ?_
    rw [List.map_map]
    have s1 := (stR_items (single_ok ok.book (kind_q ok hq)) n).1
    refine (s1.symm.map _).trans ?_
    rw [List.map_map, ← (stR_W (single g.2 q.2.2.2) n).2]
    unfold fsts
    rw [List.map_map]
    exact List.Perm.of_eq rfl
  unfold ledF
  rw [eP]
  refine Prod.ext rfl ?_
  show sortE eTie ((lround pw g.1).2.map (renT _)) = (W g n).2
  have hs : sortE eTie (W g n).2 = (W g n).2 := sortE_of fk.srt
  rw [← hs]
  refine sortE_one enc_tie ?_
  refine List.Perm.trans ?_ (w1.trans w2).symm
  rw [← lf]
  exact (sortE_perm (e := eTie) _).map _
end L3
namespace L3
open PySem L2
open PySem.Spec
abbrev pgm : Program := PySem.Challenge.pw_manydeep_k12_whole_powers_and_addresses
def topS (i : Nat) : Stmt := pgm.main.body.getD i (.Pass ⟨0, 0, 0, 0⟩)
/-! ### looking up -/
theorem atI_nat {ds : List PyData} {i : Nat} {c : PyData} (h : ds[i]? = some c) : atI ds (i : Nat) = some c := by
  have hl := (List.getElem?_eq_some_iff.mp h).1
  unfold atI ixN
  simp [hl, (List.getElem?_eq_some_iff.mp h).2]
theorem atI_map {α : Type} {e : α → PyData} {xs : List α} {i : Nat} {a : α} (h : xs[i]? = some a) : atI (xs.map e) (i : Nat) = some (e a) := atI_nat (by rw [List.getElem?_map, h]; rfl)
theorem ix_map {α : Type} {e : α → PyData} {xs : List α} {i : Nat} {a : α} {d : PyData} {Q : PyData → Prop} (hd : d = .tuple (xs.map e) ∨ d = .list (xs.map e)) (h : xs[i]? = some a) (q : Q (e a)) : dIx d (eN i) Q := ⟨_, _, _, hd.symm, rfl, atI_map h, q⟩
/-! ### the rules that tell of the kept heap, with it as a name of its own (for blocks) -/
section
variable {X : Cx} {C : C3} {a b e e2 tg : Expr} {ta tb te te2 : TE} {τa τb τ υ : TD} {pos p : Pos} {K : PySem.W.Frag}
theorem q_ixK (ha : PDE X C a ta τa) (hb : PDE X C b tb τb) (hs : PlainIx b := by exact fun _ _ => rfl) (hK : X.K = K := by rfl) : PDE X C (.Subscript a b pos) (tOp (rIx K) ta tb) (dOp dIx τa τb) := by
  subst hK
  exact q_ix ha hb hs
theorem q_catK (ha : PDE X C a ta τa) (hb : PDE X C b tb τb) (hK : X.K = K := by rfl) : PDE X C (.BinOp a .Add b pos) (tOp (rCatA K) ta tb) (dOp dCat τa τb) := by
  subst hK
  exact q_cat ha hb
theorem q_slTK {lo hi : Option Expr} {tl th : TO} {τl τh : TOd} {p2 : Pos} (he : PDE X C a ta τa) (hl : PDO X C lo tl τl) (hu : PDO X C hi th τh) (hK : X.K = K := by rfl) : PDE X C (.Subscript a (.Slice lo hi none p2) pos) (tSl (rSlA K) ta tl th) (dSlT τa τl τh) := by
  subst hK
  exact q_slT he hl hu
theorem q_slLK {lo hi : Option Expr} {tl th : TO} {τl τh : TOd} {p2 : Pos} (he : PDE X C a ta τa) (hl : PDO X C lo tl τl) (hu : PDO X C hi th τh) (hK : X.K = K := by rfl) : PDE X C (.Subscript a (.Slice lo hi none p2) pos) (tSl (rSlL K) ta tl th) (dSlL τa τl τh) := by
  subst hK
  exact q_slL he hl hu
theorem op_eqDK (hu : X.A.units + 64 < cLine) (hK : X.K = K := by rfl) : OpR X (compareOp .Eq) (rEqD K) := by
  subst hK
  exact op_eqD hu
theorem op_neDK (hu : X.A.units + 64 < cLine) (hK : X.K = K := by rfl) : OpR X (compareOp .NotEq) (rNeD K) := by
  subst hK
  exact op_neD hu
theorem call_lenK (hK : X.K = K := by rfl) : CallR X (.builtin "len") (fun xs H Q => ∃ p ys, xs = [.ref p] ∧ (SqL K H p ys ∨ SqT K H p ys) ∧ Q (.int ys.length) H) := by
  subst hK
  exact call_len_seq
theorem cr_sumK (hc : X.calm = true) (hK : X.K = K := by rfl) : CallR X (.builtin "sum") (rSum K) := by
  subst hK
  exact cr_sum hc
theorem cr_allK (hc : X.calm = true) (hK : X.K = K := by rfl) : CallR X (.builtin "all") (rAll K) := by
  subst hK
  exact cr_all hc
theorem qi_listK (h : PDE X C e te τ) (hK : X.K = K := by rfl) : PDI X C tg e (iList K te) (dList τ) := by
  subst hK
  exact qi_list h
theorem qi_tupK (h : PDE X C e te τ) (hK : X.K = K := by rfl) : PDI X C tg e (iTup K te) (dTupl τ) := by
  subst hK
  exact qi_tup h
theorem qi_enumK {tpos : Pos} {elts : List Expr} {kk : Nat} (hg : Gl X "enumerate") (hm : X.mg "enumerate" = none) (h : PDE X C e te τ) (hs : starEach [e] X.env = [(false, eval e X.env)] := by rfl) (hK : X.K = K := by rfl) : PDI X C (.Tuple elts kk tpos) (.Call (.Name "enumerate" p) [e] [] pos) (iEnum K (tCons te tNil)) (dEnum τ) := by
  subst hK
  exact qi_enum hg hm h hs
theorem qi_enumTK {tpos : Pos} {elts : List Expr} {kk : Nat} (hg : Gl X "enumerate") (hm : X.mg "enumerate" = none) (h : PDE X C e te τ) (hs : starEach [e] X.env = [(false, eval e X.env)] := by rfl) (hK : X.K = K := by rfl) : PDI X C (.Tuple elts kk tpos) (.Call (.Name "enumerate" p) [e] [] pos) (iEnumT K (tCons te tNil)) (dEnumT τ) := by
  subst hK
  exact qi_enumT hg hm h hs
theorem qg_tupK {es : List Expr} {k : Nat} {u : TGs} {ν : TGsd} {n : Nat} {ks : List Nat} (hc : X.calm = true) (h : PDGs X C es u ν ks) (hn : (assignEach es X.env).length = n := by rfl) (hst : (assignEach es X.env).findIdx? (·.1) = none := by rfl) (hK : X.K = K := by rfl) : PDG X C (.Tuple es k pos) (gTup K n u) (dgTup n ν) ks := by
  subst hK
  exact qg_tup hc h hn hst
end
theorem iteB {b : Bool} {A B : Prop} (hb : b = true) (h : A) : if b = true then A else B := by rw [if_pos hb]; exact h
theorem iteN {b : Bool} {A B : Prop} (hb : b = false) (h : B) : if b = true then A else B := by rw [hb]; exact iteF h
theorem room65 {k : Nat} {A : Around} (r : Room k A) : A.units + 65 < cLine := by
  have := r.un
  omega
theorem byEnv {Q : Env3 → Prop} {d e : Env3} (q : e = d) (h : Q d) : Q e := q ▸ h
theorem byEq {Q : PyData → Prop} {d e : PyData} (h : Q d) (q : d = e) : Q e := q ▸ h
end L3
namespace L3
open PySem L2
open PySem.Spec
section
variable {P : Program} {w : World} {K : PySem.W.Frag} {mg : Str → Option Value} {base : Heap} {T : List (Addr × Str)}
def phi_is_integer : Phi := fun ds Q => ∃ i, ds = [.int i] ∧ Q (.bool true)
abbrev s_is_integer : Stmt := topS 12
theorem sc_is_integer : FnScope ["thing"] ["thing"] (defScope s_is_integer) := ⟨rfl, rfl, rfl, by decide +kernel, rfl, by decide +kernel, by decide +kernel⟩
theorem ok_is_integer {f : Addr} {fd : FuncData} (F : Fun K "is_integer" "is_integer" s_is_integer f fd) (N : Nms mg)  : FnOk P w K mg base CX0 1 f fd ["thing"] (sp3 ⟨T, none⟩ phi_is_integer) := by
  refine fn3 F sc_is_integer (fun ds QD h => ?_) (fun cdv A outer s H E hr => ⟨_, _, (by exact qss_one (qs_ret (q_and (q_isi (T := "int") (by decide) rfl N.isinstance bt_isi rfl N.int bt_int (q_var 0)) (q_one (q_not (q_isi (T := "bool") (by decide) rfl N.isinstance bt_isi rfl N.bool bt_bool (q_var 0))))))), fun ds QD h => ?_⟩)
  · obtain ⟨i, rfl, _⟩ := h; rfl
  · obtain ⟨i, rfl, h⟩ := h
    repeat (first | refine ⟨_, rfl, ?_⟩ | refine ⟨_, _, rfl, rfl, ?_⟩ | refine ⟨_, _, _, .inr rfl, rfl, rfl, ?_⟩ | refine ⟨_, _, _, .inl rfl, rfl, rfl, ?_⟩ | refine ⟨_, .inr rfl, ?_⟩ | refine ⟨_, .inl rfl, ?_⟩ | refine ⟨(by intro s z; cases z), ?_⟩ | refine ⟨Nat.le_of_ble_eq_true rfl, ?_⟩ | refine ⟨rfl, ?_⟩ | refine iteT ?_ | refine iteF ?_ | refine ⟨_, _, rfl, ?_⟩ | refine ⟨_, _, _, rfl, ?_⟩)
    exact h
def phi_is_between : Phi := fun ds Q => ∃ i a b : Int, ds = [.int i, .int a, .int b] ∧ a ≤ i ∧ i ≤ b ∧ Q (.bool true)
abbrev s_is_between : Stmt := topS 13
theorem sc_is_between : FnScope ["thing", "least", "most"] ["thing", "least", "most"] (defScope s_is_between) := ⟨rfl, rfl, rfl, by decide +kernel, rfl, by decide +kernel, by decide +kernel⟩
theorem ok_is_between {f : Addr} {fd : FuncData} (F : Fun K "is_between" "is_between" s_is_between f fd) (N : Nms mg) (h_is_integer : Has P w K mg base "is_integer" 1 ["thing"] (sp3 ⟨T, none⟩ phi_is_integer)) : FnOk P w K mg base CX0 2 f fd ["thing", "least", "most"] (sp3 ⟨T, none⟩ phi_is_between) := by
  refine fn3 F sc_is_between (fun ds QD h => ?_) (fun cdv A outer s H E hr => ⟨_, _, (by exact qss_one (qs_ret (q_and (q_call h_is_integer (hr.mono (by decide)) (qa_cons (q_var 0) qa_nil)) (q_one (q_chain op_le op_le l_le l_le (q_var 1) (q_var 0) (q_var 2)))))), fun ds QD h => ?_⟩)
  · obtain ⟨i, a, b, rfl, _⟩ := h; rfl
  · obtain ⟨i, a, b, rfl, h1, h2, h⟩ := h
    repeat (first | refine ⟨_, rfl, ?_⟩ | refine ⟨_, _, rfl, rfl, ?_⟩ | refine ⟨_, _, _, .inr rfl, rfl, rfl, ?_⟩ | refine ⟨_, _, _, .inl rfl, rfl, rfl, ?_⟩ | refine ⟨_, .inr rfl, ?_⟩ | refine ⟨_, .inl rfl, ?_⟩ | refine ⟨(by intro s z; cases z), ?_⟩ | refine ⟨Nat.le_of_ble_eq_true rfl, ?_⟩ | refine ⟨rfl, ?_⟩ | refine iteT ?_ | refine iteF ?_ | refine ⟨_, _, rfl, ?_⟩ | refine ⟨_, _, _, rfl, ?_⟩)
    refine iteB (decide_eq_true h1) ?_
    repeat (first | refine ⟨_, rfl, ?_⟩ | refine ⟨_, _, rfl, rfl, ?_⟩ | refine ⟨_, _, _, .inr rfl, rfl, rfl, ?_⟩ | refine ⟨_, _, _, .inl rfl, rfl, rfl, ?_⟩ | refine ⟨_, .inr rfl, ?_⟩ | refine ⟨_, .inl rfl, ?_⟩ | refine ⟨(by intro s z; cases z), ?_⟩ | refine ⟨Nat.le_of_ble_eq_true rfl, ?_⟩ | refine ⟨rfl, ?_⟩ | refine iteT ?_ | refine iteF ?_ | refine ⟨_, _, rfl, ?_⟩ | refine ⟨_, _, _, rfl, ?_⟩)
    show QD (.bool (decide (i ≤ b)))
    rw [decide_eq_true h2]
    exact h
def phi_is_tie : Phi := fun ds Q => ∃ n t, ds = [eN n, eTie t] ∧ TieOk n t ∧ Q (.bool true)
abbrev s_is_tie : Stmt := topS 14
theorem sc_is_tie : FnScope ["places", "thing"] ["places", "thing"] (defScope s_is_tie) := ⟨rfl, rfl, rfl, by decide +kernel, rfl, by decide +kernel, by decide +kernel⟩
theorem ok_is_tie {f : Addr} {fd : FuncData} (F : Fun K "is_tie" "is_tie" s_is_tie f fd) (N : Nms mg) (h_is_between : Has P w K mg base "is_between" 2 ["thing", "least", "most"] (sp3 ⟨T, none⟩ phi_is_between)) : FnOk P w K mg base CX0 3 f fd ["places", "thing"] (sp3 ⟨T, none⟩ phi_is_tie) := by
  refine fn3 F sc_is_tie (fun ds QD h => ?_) (fun cdv A outer s H E hr => ⟨_, _, (by exact qss_cons (qs_if (PDW.pdt (qw_or (qt_not (qt_val (q_isi (T := "tuple") (by decide) rfl N.isinstance bt_isi rfl N.tuple bt_tuple (q_var 1)))) (qw_or (qt_cmp op_ne l_neI (by decide) (by decide) (q_cb call_lenK l_len rfl N.len PySem.boot_len (qa_cons (q_var 1) qa_nil)) q_int) (qw_or1 (qt_not (qt_val (q_call h_is_between (hr.mono (by decide)) (qa_cons (q_ixK (q_var 1) q_int) (qa_cons q_int (qa_cons (q_sub (q_num N.kinds) q_int) qa_nil)))))))))) (qss_one (qs_ret q_bl)) (qss_nil)) (qss_one (qs_ret (q_and (q_call h_is_between (hr.mono (by decide)) (qa_cons (q_ixK (q_var 1) q_int) (qa_cons q_int (qa_cons (q_sub (q_var 0) q_int) qa_nil)))) (q_and (q_call h_is_between (hr.mono (by decide)) (qa_cons (q_ixK (q_var 1) q_int) (qa_cons q_int (qa_cons (q_sub (q_var 0) q_int) qa_nil)))) (q_one (q_cmp op_ne l_neI (by decide) (by decide) (q_ixK (q_var 1) q_int) (q_ixK (q_var 1) q_int)))))))), fun ds QD h => ?_⟩)
  · obtain ⟨n, t, rfl, _⟩ := h; rfl
  · obtain ⟨n, t, rfl, ok, h⟩ := h
    have h1 := ok.a
    have h2 := ok.b
    have h3 := ok.ne
    have h4 := ok.c
    repeat (first | refine ⟨_, rfl, ?_⟩ | refine ⟨_, _, rfl, rfl, ?_⟩ | refine ⟨_, _, _, .inr rfl, rfl, rfl, ?_⟩ | refine ⟨_, _, _, .inl rfl, rfl, rfl, ?_⟩ | refine ⟨_, .inr rfl, ?_⟩ | refine ⟨_, .inl rfl, ?_⟩ | refine ⟨(by intro s z; cases z), ?_⟩ | refine ⟨Nat.le_of_ble_eq_true rfl, ?_⟩ | refine ⟨rfl, ?_⟩ | refine iteT ?_ | refine iteF ?_ | refine ⟨_, _, rfl, ?_⟩ | refine ⟨_, _, _, rfl, ?_⟩)
    refine ⟨by omega, by omega, ?_⟩
    repeat (first | refine ⟨_, rfl, ?_⟩ | refine ⟨_, _, rfl, rfl, ?_⟩ | refine ⟨_, _, _, .inr rfl, rfl, rfl, ?_⟩ | refine ⟨_, _, _, .inl rfl, rfl, rfl, ?_⟩ | refine ⟨_, .inr rfl, ?_⟩ | refine ⟨_, .inl rfl, ?_⟩ | refine ⟨(by intro s z; cases z), ?_⟩ | refine ⟨Nat.le_of_ble_eq_true rfl, ?_⟩ | refine ⟨rfl, ?_⟩ | refine iteT ?_ | refine iteF ?_ | refine ⟨_, _, rfl, ?_⟩ | refine ⟨_, _, _, rfl, ?_⟩)
    refine ⟨by omega, by omega, ?_⟩
    repeat (first | refine ⟨_, rfl, ?_⟩ | refine ⟨_, _, rfl, rfl, ?_⟩ | refine ⟨_, _, _, .inr rfl, rfl, rfl, ?_⟩ | refine ⟨_, _, _, .inl rfl, rfl, rfl, ?_⟩ | refine ⟨_, .inr rfl, ?_⟩ | refine ⟨_, .inl rfl, ?_⟩ | refine ⟨(by intro s z; cases z), ?_⟩ | refine ⟨Nat.le_of_ble_eq_true rfl, ?_⟩ | refine ⟨rfl, ?_⟩ | refine iteT ?_ | refine iteF ?_ | refine ⟨_, _, rfl, ?_⟩ | refine ⟨_, _, _, rfl, ?_⟩)
    refine ⟨by omega, by omega, ?_⟩
    repeat (first | refine ⟨_, rfl, ?_⟩ | refine ⟨_, _, rfl, rfl, ?_⟩ | refine ⟨_, _, _, .inr rfl, rfl, rfl, ?_⟩ | refine ⟨_, _, _, .inl rfl, rfl, rfl, ?_⟩ | refine ⟨_, .inr rfl, ?_⟩ | refine ⟨_, .inl rfl, ?_⟩ | refine ⟨(by intro s z; cases z), ?_⟩ | refine ⟨Nat.le_of_ble_eq_true rfl, ?_⟩ | refine ⟨rfl, ?_⟩ | refine iteT ?_ | refine iteF ?_ | refine ⟨_, _, rfl, ?_⟩ | refine ⟨_, _, _, rfl, ?_⟩)
    exact byEq (Q := QD) h (by simp; omega)
def phi_is_web_value : Phi := fun ds Q => ∃ w, ds = [eWeb w] ∧ WebOk w ∧ Q (.bool true)
abbrev s_is_web_value : Stmt := topS 15
theorem sc_is_web_value : FnScope ["thing", "tie"] ["thing"] (defScope s_is_web_value) := ⟨rfl, rfl, rfl, by decide +kernel, rfl, by decide +kernel, by decide +kernel⟩
theorem ok_is_web_value {f : Addr} {fd : FuncData} (F : Fun K "is_web_value" "is_web_value" s_is_web_value f fd) (N : Nms mg) (h_is_integer : Has P w K mg base "is_integer" 1 ["thing"] (sp3 ⟨T, none⟩ phi_is_integer)) (h_is_tie : Has P w K mg base "is_tie" 3 ["places", "thing"] (sp3 ⟨T, none⟩ phi_is_tie)) : FnOk P w K mg base CX0 4 f fd ["thing"] (sp3 ⟨T, none⟩ phi_is_web_value) := by
  refine fn3 F sc_is_web_value (fun ds QD h => ?_) (fun cdv A outer s H E hr => ⟨_, _, (by have hu := hr.units; exact qss_cons (qs_if (PDW.pdt (qw_or (qt_not (qt_val (q_isi (T := "tuple") (by decide) rfl N.isinstance bt_isi rfl N.tuple bt_tuple (q_var 0)))) (qw_or (qt_cmp op_ne l_neI (by decide) (by decide) (q_cb call_lenK l_len rfl N.len PySem.boot_len (qa_cons (q_var 0) qa_nil)) q_int) (qw_or (qt_not (qt_val (q_call h_is_integer (hr.mono (by decide)) (qa_cons (q_ixK (q_var 0) q_int) qa_nil)))) (qw_or1 (qt_cmp op_lt l_lt (by decide) (by decide) (q_ixK (q_var 0) q_int) q_int)))))) (qss_one (qs_ret q_bl)) (qss_nil)) (qss_cons (qs_if (PDW.pdt (qw_or (qt_not (qt_val (q_isi (T := "tuple") (by decide) rfl N.isinstance bt_isi rfl N.tuple bt_tuple (q_ixK (q_var 0) q_int)))) (qw_or1 (qt_not (qt_val (q_cb (cr_allK rfl) l_all rfl N.all bt_all (qa_cons (PDL.pde (ql_lc rfl sc_is_web_value.nd (own := [("tie", 1)]) (qi_tupK (q_ixK (q_var 0) q_int)) (blkOk_by (by rfl)) (fun _ _ _ _ _ => (qg_name (i := 1) sc_is_web_value.nd)) (fun _ _ _ _ _ => qts_nil) (fun _ _ _ _ _ => (q_call h_is_tie (hr.mono (by decide)) (qa_cons (q_ixK (q_var 0) q_int) (qa_cons (q_var 1) qa_nil)))) (by decide) s)) qa_nil))))))) (qss_one (qs_ret q_bl)) (qss_nil)) (qss_one (qs_ret (q_cmp (op_eqDK hu) lift_eq (by decide) (by decide) (q_cty call_list_of l_list rfl N.list bt_list (qa_cons (q_ixK (q_var 0) q_int) qa_nil)) (PDL.pde (ql_sorted hu rfl N.sorted (q_ixK (q_var 0) q_int)))))))), fun ds QD h => ?_⟩)
  · obtain ⟨w, rfl, _⟩ := h; rfl
  · obtain ⟨w, rfl, ok, h⟩ := h
    have h1 := ok.pos
    repeat (first | refine ⟨_, rfl, ?_⟩ | refine ⟨_, _, rfl, rfl, ?_⟩ | refine ⟨_, _, _, .inr rfl, rfl, rfl, ?_⟩ | refine ⟨_, _, _, .inl rfl, rfl, rfl, ?_⟩ | refine ⟨_, .inr rfl, ?_⟩ | refine ⟨_, .inl rfl, ?_⟩ | refine ⟨(by intro s z; cases z), ?_⟩ | refine ⟨Nat.le_of_ble_eq_true rfl, ?_⟩ | refine ⟨rfl, ?_⟩ | refine iteT ?_ | refine iteF ?_ | refine ⟨_, _, rfl, ?_⟩ | refine ⟨_, _, _, rfl, ?_⟩)
    refine iteN (decide_eq_false (by show ¬ (w.1 : Int) < 1; omega)) ?_
    repeat (first | refine ⟨_, rfl, ?_⟩ | refine ⟨_, _, rfl, rfl, ?_⟩ | refine ⟨_, _, _, .inr rfl, rfl, rfl, ?_⟩ | refine ⟨_, _, _, .inl rfl, rfl, rfl, ?_⟩ | refine ⟨_, .inr rfl, ?_⟩ | refine ⟨_, .inl rfl, ?_⟩ | refine ⟨(by intro s z; cases z), ?_⟩ | refine ⟨Nat.le_of_ble_eq_true rfl, ?_⟩ | refine ⟨rfl, ?_⟩ | refine iteT ?_ | refine iteF ?_ | refine ⟨_, _, rfl, ?_⟩ | refine ⟨_, _, _, rfl, ?_⟩)
    refine lc_map (enc := eTie) (f := fun _ => .bool true) w.2 [] (by have := ok.few; simp; omega) (fun t ht K hK => ?_) ?_
    · repeat (first | refine ⟨_, rfl, ?_⟩ | refine ⟨_, _, rfl, rfl, ?_⟩ | refine ⟨_, _, _, .inr rfl, rfl, rfl, ?_⟩ | refine ⟨_, _, _, .inl rfl, rfl, rfl, ?_⟩ | refine ⟨_, .inr rfl, ?_⟩ | refine ⟨_, .inl rfl, ?_⟩ | refine ⟨(by intro s z; cases z), ?_⟩ | refine ⟨Nat.le_of_ble_eq_true rfl, ?_⟩ | refine ⟨rfl, ?_⟩ | refine iteT ?_ | refine iteF ?_ | refine ⟨_, _, rfl, ?_⟩ | refine ⟨_, _, _, rfl, ?_⟩)
      exact ⟨ok.ties t ht, hK⟩
    · refine ⟨w.2.map fun _ => true, ?_, ?_⟩
      · simp
      repeat (first | refine ⟨_, rfl, ?_⟩ | refine ⟨_, _, rfl, rfl, ?_⟩ | refine ⟨_, _, _, .inr rfl, rfl, rfl, ?_⟩ | refine ⟨_, _, _, .inl rfl, rfl, rfl, ?_⟩ | refine ⟨_, .inr rfl, ?_⟩ | refine ⟨_, .inl rfl, ?_⟩ | refine ⟨(by intro s z; cases z), ?_⟩ | refine ⟨Nat.le_of_ble_eq_true rfl, ?_⟩ | refine ⟨rfl, ?_⟩ | refine iteT ?_ | refine iteF ?_ | refine ⟨_, _, rfl, ?_⟩ | refine ⟨_, _, _, rfl, ?_⟩)
      refine iteN (by simp) ?_
      repeat (first | refine ⟨_, rfl, ?_⟩ | refine ⟨_, _, rfl, rfl, ?_⟩ | refine ⟨_, _, _, .inr rfl, rfl, rfl, ?_⟩ | refine ⟨_, _, _, .inl rfl, rfl, rfl, ?_⟩ | refine ⟨_, .inr rfl, ?_⟩ | refine ⟨_, .inl rfl, ?_⟩ | refine ⟨(by intro s z; cases z), ?_⟩ | refine ⟨Nat.le_of_ble_eq_true rfl, ?_⟩ | refine ⟨rfl, ?_⟩ | refine iteT ?_ | refine iteF ?_ | refine ⟨_, _, rfl, ?_⟩ | refine ⟨_, _, _, rfl, ?_⟩)
      refine ⟨sortOk enc_tie (fun b => ⟨_, _, rfl⟩) (by have := ok.few; omega), ?_⟩
      rw [srtD_map, sortE_of ok.srt]
      refine ⟨(enc_list enc_tie fun a => Nat.le_trans (dep_tie a) (by decide)).shaped w.2, (enc_list enc_tie fun a => Nat.le_trans (dep_tie a) (by decide)).shaped w.2, ?_⟩
      exact byEq (Q := QD) h (by rw [(enc_list enc_tie fun a => Nat.le_trans (dep_tie a) (by decide)).eqv_self w.2])
def phi_has_kinds_below : Phi := fun ds Q => ∃ w k, ds = [eWeb w, eN k] ∧ w.2.length ≤ 600 ∧ Below w k ∧ Q (.bool true)
abbrev s_has_kinds_below : Stmt := topS 16
theorem sc_has_kinds_below : FnScope ["web", "many", "tie"] ["web", "many"] (defScope s_has_kinds_below) := ⟨rfl, rfl, rfl, by decide +kernel, rfl, by decide +kernel, by decide +kernel⟩
theorem ok_has_kinds_below {f : Addr} {fd : FuncData} (F : Fun K "has_kinds_below" "has_kinds_below" s_has_kinds_below f fd) (N : Nms mg)  : FnOk P w K mg base CX0 1 f fd ["web", "many"] (sp3 ⟨T, none⟩ phi_has_kinds_below) := by
  refine fn3 F sc_has_kinds_below (fun ds QD h => ?_) (fun cdv A outer s H E hr => ⟨_, _, (by exact qss_one (qs_ret (q_cb (cr_allK rfl) l_all rfl N.all bt_all (qa_cons (PDL.pde (ql_lc rfl sc_has_kinds_below.nd (own := [("tie", 2)]) (qi_tupK (q_ixK (q_var 0) q_int)) (blkOk_by (by rfl)) (fun _ _ _ _ _ => (qg_name (i := 2) sc_has_kinds_below.nd)) (fun _ _ _ _ _ => qts_nil) (fun _ _ _ _ _ => (q_cmp op_lt l_lt (by decide) (by decide) (q_ixK (q_var 2) q_int) (q_var 1))) (by decide) s)) qa_nil)))), fun ds QD h => ?_⟩)
  · obtain ⟨w, k, rfl, _⟩ := h; rfl
  · obtain ⟨w, k, rfl, few, ok, h⟩ := h
    repeat (first | refine ⟨_, rfl, ?_⟩ | refine ⟨_, _, rfl, rfl, ?_⟩ | refine ⟨_, _, _, .inr rfl, rfl, rfl, ?_⟩ | refine ⟨_, _, _, .inl rfl, rfl, rfl, ?_⟩ | refine ⟨_, .inr rfl, ?_⟩ | refine ⟨_, .inl rfl, ?_⟩ | refine ⟨(by intro s z; cases z), ?_⟩ | refine ⟨Nat.le_of_ble_eq_true rfl, ?_⟩ | refine ⟨rfl, ?_⟩ | refine iteT ?_ | refine iteF ?_ | refine ⟨_, _, rfl, ?_⟩ | refine ⟨_, _, _, rfl, ?_⟩)
    refine lc_map (enc := eTie) (f := fun _ => .bool true) w.2 [] (by simp; omega) (fun t ht K hK => ?_) ?_
    · repeat (first | refine ⟨_, rfl, ?_⟩ | refine ⟨_, _, rfl, rfl, ?_⟩ | refine ⟨_, _, _, .inr rfl, rfl, rfl, ?_⟩ | refine ⟨_, _, _, .inl rfl, rfl, rfl, ?_⟩ | refine ⟨_, .inr rfl, ?_⟩ | refine ⟨_, .inl rfl, ?_⟩ | refine ⟨(by intro s z; cases z), ?_⟩ | refine ⟨Nat.le_of_ble_eq_true rfl, ?_⟩ | refine ⟨rfl, ?_⟩ | refine iteT ?_ | refine iteF ?_ | refine ⟨_, _, rfl, ?_⟩ | refine ⟨_, _, _, rfl, ?_⟩)
      exact byEq (Q := K) hK (by have := ok t ht; simp; omega)
    · refine ⟨w.2.map fun _ => true, ?_, ?_⟩
      · simp
      exact byEq (Q := QD) h (by simp)
def phi_is_growth_value : Phi := fun ds Q => ∃ w, ds = [eWeb w] ∧ WebOk w ∧ 2 ≤ w.1 ∧ Q (.bool true)
abbrev s_is_growth_value : Stmt := topS 17
theorem sc_is_growth_value : FnScope ["thing"] ["thing"] (defScope s_is_growth_value) := ⟨rfl, rfl, rfl, by decide +kernel, rfl, by decide +kernel, by decide +kernel⟩
theorem ok_is_growth_value {f : Addr} {fd : FuncData} (F : Fun K "is_growth_value" "is_growth_value" s_is_growth_value f fd) (N : Nms mg) (h_is_web_value : Has P w K mg base "is_web_value" 4 ["thing"] (sp3 ⟨T, none⟩ phi_is_web_value)) : FnOk P w K mg base CX0 5 f fd ["thing"] (sp3 ⟨T, none⟩ phi_is_growth_value) := by
  refine fn3 F sc_is_growth_value (fun ds QD h => ?_) (fun cdv A outer s H E hr => ⟨_, _, (by exact qss_one (qs_ret (q_and (q_call h_is_web_value (hr.mono (by decide)) (qa_cons (q_var 0) qa_nil)) (q_one (q_cmp op_ge l_ge (by decide) (by decide) (q_ixK (q_var 0) q_int) q_int))))), fun ds QD h => ?_⟩)
  · obtain ⟨w, rfl, _⟩ := h; rfl
  · obtain ⟨w, rfl, ok, h2, h⟩ := h
    repeat (first | refine ⟨_, rfl, ?_⟩ | refine ⟨_, _, rfl, rfl, ?_⟩ | refine ⟨_, _, _, .inr rfl, rfl, rfl, ?_⟩ | refine ⟨_, _, _, .inl rfl, rfl, rfl, ?_⟩ | refine ⟨_, .inr rfl, ?_⟩ | refine ⟨_, .inl rfl, ?_⟩ | refine ⟨(by intro s z; cases z), ?_⟩ | refine ⟨Nat.le_of_ble_eq_true rfl, ?_⟩ | refine ⟨rfl, ?_⟩ | refine iteT ?_ | refine iteF ?_ | refine ⟨_, _, rfl, ?_⟩ | refine ⟨_, _, _, rfl, ?_⟩)
    refine ⟨ok, ?_⟩
    repeat (first | refine ⟨_, rfl, ?_⟩ | refine ⟨_, _, rfl, rfl, ?_⟩ | refine ⟨_, _, _, .inr rfl, rfl, rfl, ?_⟩ | refine ⟨_, _, _, .inl rfl, rfl, rfl, ?_⟩ | refine ⟨_, .inr rfl, ?_⟩ | refine ⟨_, .inl rfl, ?_⟩ | refine ⟨(by intro s z; cases z), ?_⟩ | refine ⟨Nat.le_of_ble_eq_true rfl, ?_⟩ | refine ⟨rfl, ?_⟩ | refine iteT ?_ | refine iteF ?_ | refine ⟨_, _, rfl, ?_⟩ | refine ⟨_, _, _, rfl, ?_⟩)
    exact byEq (Q := QD) h (by simp; omega)
def phi_is_book_value : Phi := fun ds Q => ∃ b, ds = [eBook b] ∧ BookOk b ∧ Q (.bool true)
abbrev s_is_book_value : Stmt := topS 18
theorem sc_is_book_value : FnScope ["thing", "growth"] ["thing"] (defScope s_is_book_value) := ⟨rfl, rfl, rfl, by decide +kernel, rfl, by decide +kernel, by decide +kernel⟩
theorem ok_is_book_value {f : Addr} {fd : FuncData} (F : Fun K "is_book_value" "is_book_value" s_is_book_value f fd) (N : Nms mg) (h_is_growth_value : Has P w K mg base "is_growth_value" 5 ["thing"] (sp3 ⟨T, none⟩ phi_is_growth_value)) (h_has_kinds_below : Has P w K mg base "has_kinds_below" 1 ["web", "many"] (sp3 ⟨T, none⟩ phi_has_kinds_below)) : FnOk P w K mg base CX0 6 f fd ["thing"] (sp3 ⟨T, none⟩ phi_is_book_value) := by
  refine fn3 F sc_is_book_value (fun ds QD h => ?_) (fun cdv A outer s H E hr => ⟨_, _, (by exact qss_cons (qs_if (PDW.pdt (qw_or (qt_not (qt_val (q_isi (T := "tuple") (by decide) rfl N.isinstance bt_isi rfl N.tuple bt_tuple (q_var 0)))) (qw_or1 (qt_not (qt_chain op_le op_le l_le l_le q_int (q_cb call_lenK l_len rfl N.len PySem.boot_len (qa_cons (q_var 0) qa_nil)) (q_num N.kinds)))))) (qss_one (qs_ret q_bl)) (qss_nil)) (qss_one (qs_ret (q_cb (cr_allK rfl) l_all rfl N.all bt_all (qa_cons (PDL.pde (ql_lc rfl sc_is_book_value.nd (own := [("growth", 1)]) (qi_tupK (q_var 0)) (blkOk_by (by rfl)) (fun _ _ _ _ _ => (qg_name (i := 1) sc_is_book_value.nd)) (fun _ _ _ _ _ => qts_nil) (fun _ _ _ _ _ => (q_and (q_call h_is_growth_value (hr.mono (by decide)) (qa_cons (q_var 1) qa_nil)) (q_one (q_call h_has_kinds_below (hr.mono (by decide)) (qa_cons (q_var 1) (qa_cons (q_cb call_lenK l_len rfl N.len PySem.boot_len (qa_cons (q_var 0) qa_nil)) qa_nil)))))) (by decide) s)) qa_nil))))), fun ds QD h => ?_⟩)
  · obtain ⟨b, rfl, _⟩ := h; rfl
  · obtain ⟨b, rfl, ok, h⟩ := h
    have h1 := ok.pos
    have h2 := ok.few
    repeat (first | refine ⟨_, rfl, ?_⟩ | refine ⟨_, _, rfl, rfl, ?_⟩ | refine ⟨_, _, _, .inr rfl, rfl, rfl, ?_⟩ | refine ⟨_, _, _, .inl rfl, rfl, rfl, ?_⟩ | refine ⟨_, .inr rfl, ?_⟩ | refine ⟨_, .inl rfl, ?_⟩ | refine ⟨(by intro s z; cases z), ?_⟩ | refine ⟨Nat.le_of_ble_eq_true rfl, ?_⟩ | refine ⟨rfl, ?_⟩ | refine iteT ?_ | refine iteF ?_ | refine ⟨_, _, rfl, ?_⟩ | refine ⟨_, _, _, rfl, ?_⟩)
    refine iteB (decide_eq_true (by simp; omega)) ?_
    repeat (first | refine ⟨_, rfl, ?_⟩ | refine ⟨_, _, rfl, rfl, ?_⟩ | refine ⟨_, _, _, .inr rfl, rfl, rfl, ?_⟩ | refine ⟨_, _, _, .inl rfl, rfl, rfl, ?_⟩ | refine ⟨_, .inr rfl, ?_⟩ | refine ⟨_, .inl rfl, ?_⟩ | refine ⟨(by intro s z; cases z), ?_⟩ | refine ⟨Nat.le_of_ble_eq_true rfl, ?_⟩ | refine ⟨rfl, ?_⟩ | refine iteT ?_ | refine iteF ?_ | refine ⟨_, _, rfl, ?_⟩ | refine ⟨_, _, _, rfl, ?_⟩)
    refine iteN (by simp; omega) ?_
    repeat (first | refine ⟨_, rfl, ?_⟩ | refine ⟨_, _, rfl, rfl, ?_⟩ | refine ⟨_, _, _, .inr rfl, rfl, rfl, ?_⟩ | refine ⟨_, _, _, .inl rfl, rfl, rfl, ?_⟩ | refine ⟨_, .inr rfl, ?_⟩ | refine ⟨_, .inl rfl, ?_⟩ | refine ⟨(by intro s z; cases z), ?_⟩ | refine ⟨Nat.le_of_ble_eq_true rfl, ?_⟩ | refine ⟨rfl, ?_⟩ | refine iteT ?_ | refine iteF ?_ | refine ⟨_, _, rfl, ?_⟩ | refine ⟨_, _, _, rfl, ?_⟩)
    refine lc_map (enc := eWeb) (f := fun _ => .bool true) b [] (by simp; omega) (fun t ht K hK => ?_) ?_
    · obtain ⟨k1, k2, k3⟩ := ok.webs t ht
      repeat (first | refine ⟨_, rfl, ?_⟩ | refine ⟨_, _, rfl, rfl, ?_⟩ | refine ⟨_, _, _, .inr rfl, rfl, rfl, ?_⟩ | refine ⟨_, _, _, .inl rfl, rfl, rfl, ?_⟩ | refine ⟨_, .inr rfl, ?_⟩ | refine ⟨_, .inl rfl, ?_⟩ | refine ⟨(by intro s z; cases z), ?_⟩ | refine ⟨Nat.le_of_ble_eq_true rfl, ?_⟩ | refine ⟨rfl, ?_⟩ | refine iteT ?_ | refine iteF ?_ | refine ⟨_, _, rfl, ?_⟩ | refine ⟨_, _, _, rfl, ?_⟩)
      refine ⟨k1, k2, ?_⟩
      repeat (first | refine ⟨_, rfl, ?_⟩ | refine ⟨_, _, rfl, rfl, ?_⟩ | refine ⟨_, _, _, .inr rfl, rfl, rfl, ?_⟩ | refine ⟨_, _, _, .inl rfl, rfl, rfl, ?_⟩ | refine ⟨_, .inr rfl, ?_⟩ | refine ⟨_, .inl rfl, ?_⟩ | refine ⟨(by intro s z; cases z), ?_⟩ | refine ⟨Nat.le_of_ble_eq_true rfl, ?_⟩ | refine ⟨rfl, ?_⟩ | refine iteT ?_ | refine iteF ?_ | refine ⟨_, _, rfl, ?_⟩ | refine ⟨_, _, _, rfl, ?_⟩)
      exact ⟨k1.few, by rw [List.length_map]; exact k3, hK⟩
    · refine ⟨b.map fun _ => true, ?_, ?_⟩
      · simp
      exact byEq (Q := QD) h (by simp)
def phi_is_garden_value : Phi := fun ds Q => ∃ g, ds = [eGar g] ∧ GarOk g ∧ Q (.bool true)
abbrev s_is_garden_value : Stmt := topS 19
theorem sc_is_garden_value : FnScope ["thing"] ["thing"] (defScope s_is_garden_value) := ⟨rfl, rfl, rfl, by decide +kernel, rfl, by decide +kernel, by decide +kernel⟩
theorem ok_is_garden_value {f : Addr} {fd : FuncData} (F : Fun K "is_garden_value" "is_garden_value" s_is_garden_value f fd) (N : Nms mg) (h_has_kinds_below : Has P w K mg base "has_kinds_below" 1 ["web", "many"] (sp3 ⟨T, none⟩ phi_has_kinds_below)) (h_is_web_value : Has P w K mg base "is_web_value" 4 ["thing"] (sp3 ⟨T, none⟩ phi_is_web_value)) (h_is_book_value : Has P w K mg base "is_book_value" 6 ["thing"] (sp3 ⟨T, none⟩ phi_is_book_value)) : FnOk P w K mg base CX0 7 f fd ["thing"] (sp3 ⟨T, none⟩ phi_is_garden_value) := by
  refine fn3 F sc_is_garden_value (fun ds QD h => ?_) (fun cdv A outer s H E hr => ⟨_, _, (by exact qss_cons (qs_if (PDW.pdt (qw_or (qt_not (qt_val (q_isi (T := "tuple") (by decide) rfl N.isinstance bt_isi rfl N.tuple bt_tuple (q_var 0)))) (qw_or (qt_cmp op_ne l_neI (by decide) (by decide) (q_cb call_lenK l_len rfl N.len PySem.boot_len (qa_cons (q_var 0) qa_nil)) q_int) (qw_or (qt_not (qt_val (q_call h_is_web_value (hr.mono (by decide)) (qa_cons (q_ixK (q_var 0) q_int) qa_nil)))) (qw_or1 (qt_not (qt_val (q_call h_is_book_value (hr.mono (by decide)) (qa_cons (q_ixK (q_var 0) q_int) qa_nil))))))))) (qss_one (qs_ret q_bl)) (qss_nil)) (qss_one (qs_ret (q_call h_has_kinds_below (hr.mono (by decide)) (qa_cons (q_ixK (q_var 0) q_int) (qa_cons (q_cb call_lenK l_len rfl N.len PySem.boot_len (qa_cons (q_ixK (q_var 0) q_int) qa_nil)) qa_nil)))))), fun ds QD h => ?_⟩)
  · obtain ⟨g, rfl, _⟩ := h; rfl
  · obtain ⟨g, rfl, ok, h⟩ := h
    repeat (first | refine ⟨_, rfl, ?_⟩ | refine ⟨_, _, rfl, rfl, ?_⟩ | refine ⟨_, _, _, .inr rfl, rfl, rfl, ?_⟩ | refine ⟨_, _, _, .inl rfl, rfl, rfl, ?_⟩ | refine ⟨_, .inr rfl, ?_⟩ | refine ⟨_, .inl rfl, ?_⟩ | refine ⟨(by intro s z; cases z), ?_⟩ | refine ⟨Nat.le_of_ble_eq_true rfl, ?_⟩ | refine ⟨rfl, ?_⟩ | refine iteT ?_ | refine iteF ?_ | refine ⟨_, _, rfl, ?_⟩ | refine ⟨_, _, _, rfl, ?_⟩)
    refine ⟨ok.start, ?_⟩
    repeat (first | refine ⟨_, rfl, ?_⟩ | refine ⟨_, _, rfl, rfl, ?_⟩ | refine ⟨_, _, _, .inr rfl, rfl, rfl, ?_⟩ | refine ⟨_, _, _, .inl rfl, rfl, rfl, ?_⟩ | refine ⟨_, .inr rfl, ?_⟩ | refine ⟨_, .inl rfl, ?_⟩ | refine ⟨(by intro s z; cases z), ?_⟩ | refine ⟨Nat.le_of_ble_eq_true rfl, ?_⟩ | refine ⟨rfl, ?_⟩ | refine iteT ?_ | refine iteF ?_ | refine ⟨_, _, rfl, ?_⟩ | refine ⟨_, _, _, rfl, ?_⟩)
    refine ⟨ok.book, ?_⟩
    repeat (first | refine ⟨_, rfl, ?_⟩ | refine ⟨_, _, rfl, rfl, ?_⟩ | refine ⟨_, _, _, .inr rfl, rfl, rfl, ?_⟩ | refine ⟨_, _, _, .inl rfl, rfl, rfl, ?_⟩ | refine ⟨_, .inr rfl, ?_⟩ | refine ⟨_, .inl rfl, ?_⟩ | refine ⟨(by intro s z; cases z), ?_⟩ | refine ⟨Nat.le_of_ble_eq_true rfl, ?_⟩ | refine ⟨rfl, ?_⟩ | refine iteT ?_ | refine iteF ?_ | refine ⟨_, _, rfl, ?_⟩ | refine ⟨_, _, _, rfl, ?_⟩)
    exact ⟨ok.start.few, by rw [List.length_map]; exact ok.below, h⟩
def phi_need_web : Phi := fun ds Q => ∃ w, ds = [eWeb w] ∧ WebOk w ∧ Q .none
abbrev s_need_web : Stmt := topS 20
theorem sc_need_web : FnScope ["web"] ["web"] (defScope s_need_web) := ⟨rfl, rfl, rfl, by decide +kernel, rfl, by decide +kernel, by decide +kernel⟩
theorem ok_need_web {f : Addr} {fd : FuncData} (F : Fun K "need_web" "need_web" s_need_web f fd) (N : Nms mg) (h_is_web_value : Has P w K mg base "is_web_value" 4 ["thing"] (sp3 ⟨T, none⟩ phi_is_web_value)) : FnOk P w K mg base CX0 5 f fd ["web"] (sp3 ⟨T, none⟩ phi_need_web) := by
  refine fn3 F sc_need_web (fun ds QD h => ?_) (fun cdv A outer s H E hr => ⟨_, _, (by exact qss_one (qs_if (qt_not (qt_val (q_call h_is_web_value (hr.mono (by decide)) (qa_cons (q_var 0) qa_nil)))) (qss_never) (qss_nil))), fun ds QD h => ?_⟩)
  · obtain ⟨w, rfl, _⟩ := h; rfl
  · obtain ⟨w, rfl, ok, h⟩ := h
    repeat (first | refine ⟨_, rfl, ?_⟩ | refine ⟨_, _, rfl, rfl, ?_⟩ | refine ⟨_, _, _, .inr rfl, rfl, rfl, ?_⟩ | refine ⟨_, _, _, .inl rfl, rfl, rfl, ?_⟩ | refine ⟨_, .inr rfl, ?_⟩ | refine ⟨_, .inl rfl, ?_⟩ | refine ⟨(by intro s z; cases z), ?_⟩ | refine ⟨Nat.le_of_ble_eq_true rfl, ?_⟩ | refine ⟨rfl, ?_⟩ | refine iteT ?_ | refine iteF ?_ | refine ⟨_, _, rfl, ?_⟩ | refine ⟨_, _, _, rfl, ?_⟩)
    refine ⟨ok, ?_⟩
    repeat (first | refine ⟨_, rfl, ?_⟩ | refine ⟨_, _, rfl, rfl, ?_⟩ | refine ⟨_, _, _, .inr rfl, rfl, rfl, ?_⟩ | refine ⟨_, _, _, .inl rfl, rfl, rfl, ?_⟩ | refine ⟨_, .inr rfl, ?_⟩ | refine ⟨_, .inl rfl, ?_⟩ | refine ⟨(by intro s z; cases z), ?_⟩ | refine ⟨Nat.le_of_ble_eq_true rfl, ?_⟩ | refine ⟨rfl, ?_⟩ | refine iteT ?_ | refine iteF ?_ | refine ⟨_, _, rfl, ?_⟩ | refine ⟨_, _, _, rfl, ?_⟩)
    exact h
def phi_need_book : Phi := fun ds Q => ∃ b, ds = [eBook b] ∧ BookOk b ∧ Q .none
abbrev s_need_book : Stmt := topS 21
theorem sc_need_book : FnScope ["book"] ["book"] (defScope s_need_book) := ⟨rfl, rfl, rfl, by decide +kernel, rfl, by decide +kernel, by decide +kernel⟩
theorem ok_need_book {f : Addr} {fd : FuncData} (F : Fun K "need_book" "need_book" s_need_book f fd) (N : Nms mg) (h_is_book_value : Has P w K mg base "is_book_value" 6 ["thing"] (sp3 ⟨T, none⟩ phi_is_book_value)) : FnOk P w K mg base CX0 7 f fd ["book"] (sp3 ⟨T, none⟩ phi_need_book) := by
  refine fn3 F sc_need_book (fun ds QD h => ?_) (fun cdv A outer s H E hr => ⟨_, _, (by exact qss_one (qs_if (qt_not (qt_val (q_call h_is_book_value (hr.mono (by decide)) (qa_cons (q_var 0) qa_nil)))) (qss_never) (qss_nil))), fun ds QD h => ?_⟩)
  · obtain ⟨w, rfl, _⟩ := h; rfl
  · obtain ⟨w, rfl, ok, h⟩ := h
    repeat (first | refine ⟨_, rfl, ?_⟩ | refine ⟨_, _, rfl, rfl, ?_⟩ | refine ⟨_, _, _, .inr rfl, rfl, rfl, ?_⟩ | refine ⟨_, _, _, .inl rfl, rfl, rfl, ?_⟩ | refine ⟨_, .inr rfl, ?_⟩ | refine ⟨_, .inl rfl, ?_⟩ | refine ⟨(by intro s z; cases z), ?_⟩ | refine ⟨Nat.le_of_ble_eq_true rfl, ?_⟩ | refine ⟨rfl, ?_⟩ | refine iteT ?_ | refine iteF ?_ | refine ⟨_, _, rfl, ?_⟩ | refine ⟨_, _, _, rfl, ?_⟩)
    refine ⟨ok, ?_⟩
    repeat (first | refine ⟨_, rfl, ?_⟩ | refine ⟨_, _, rfl, rfl, ?_⟩ | refine ⟨_, _, _, .inr rfl, rfl, rfl, ?_⟩ | refine ⟨_, _, _, .inl rfl, rfl, rfl, ?_⟩ | refine ⟨_, .inr rfl, ?_⟩ | refine ⟨_, .inl rfl, ?_⟩ | refine ⟨(by intro s z; cases z), ?_⟩ | refine ⟨Nat.le_of_ble_eq_true rfl, ?_⟩ | refine ⟨rfl, ?_⟩ | refine iteT ?_ | refine iteF ?_ | refine ⟨_, _, rfl, ?_⟩ | refine ⟨_, _, _, rfl, ?_⟩)
    exact h
def phi_need_garden : Phi := fun ds Q => ∃ g, ds = [eGar g] ∧ GarOk g ∧ Q .none
abbrev s_need_garden : Stmt := topS 22
theorem sc_need_garden : FnScope ["garden"] ["garden"] (defScope s_need_garden) := ⟨rfl, rfl, rfl, by decide +kernel, rfl, by decide +kernel, by decide +kernel⟩
theorem ok_need_garden {f : Addr} {fd : FuncData} (F : Fun K "need_garden" "need_garden" s_need_garden f fd) (N : Nms mg) (h_is_garden_value : Has P w K mg base "is_garden_value" 7 ["thing"] (sp3 ⟨T, none⟩ phi_is_garden_value)) : FnOk P w K mg base CX0 8 f fd ["garden"] (sp3 ⟨T, none⟩ phi_need_garden) := by
  refine fn3 F sc_need_garden (fun ds QD h => ?_) (fun cdv A outer s H E hr => ⟨_, _, (by exact qss_one (qs_if (qt_not (qt_val (q_call h_is_garden_value (hr.mono (by decide)) (qa_cons (q_var 0) qa_nil)))) (qss_never) (qss_nil))), fun ds QD h => ?_⟩)
  · obtain ⟨w, rfl, _⟩ := h; rfl
  · obtain ⟨w, rfl, ok, h⟩ := h
    repeat (first | refine ⟨_, rfl, ?_⟩ | refine ⟨_, _, rfl, rfl, ?_⟩ | refine ⟨_, _, _, .inr rfl, rfl, rfl, ?_⟩ | refine ⟨_, _, _, .inl rfl, rfl, rfl, ?_⟩ | refine ⟨_, .inr rfl, ?_⟩ | refine ⟨_, .inl rfl, ?_⟩ | refine ⟨(by intro s z; cases z), ?_⟩ | refine ⟨Nat.le_of_ble_eq_true rfl, ?_⟩ | refine ⟨rfl, ?_⟩ | refine iteT ?_ | refine iteF ?_ | refine ⟨_, _, rfl, ?_⟩ | refine ⟨_, _, _, rfl, ?_⟩)
    refine ⟨ok, ?_⟩
    repeat (first | refine ⟨_, rfl, ?_⟩ | refine ⟨_, _, rfl, rfl, ?_⟩ | refine ⟨_, _, _, .inr rfl, rfl, rfl, ?_⟩ | refine ⟨_, _, _, .inl rfl, rfl, rfl, ?_⟩ | refine ⟨_, .inr rfl, ?_⟩ | refine ⟨_, .inl rfl, ?_⟩ | refine ⟨(by intro s z; cases z), ?_⟩ | refine ⟨Nat.le_of_ble_eq_true rfl, ?_⟩ | refine ⟨rfl, ?_⟩ | refine iteT ?_ | refine iteF ?_ | refine ⟨_, _, rfl, ?_⟩ | refine ⟨_, _, _, rfl, ?_⟩)
    exact h
def phi_need_from : Phi := fun ds Q => ∃ n k : Nat, ds = [eN n, eN k] ∧ k ≤ n ∧ Q .none
abbrev s_need_from : Stmt := topS 23
theorem sc_need_from : FnScope ["thing", "least"] ["thing", "least"] (defScope s_need_from) := ⟨rfl, rfl, rfl, by decide +kernel, rfl, by decide +kernel, by decide +kernel⟩
theorem ok_need_from {f : Addr} {fd : FuncData} (F : Fun K "need_from" "need_from" s_need_from f fd) (N : Nms mg) (h_is_integer : Has P w K mg base "is_integer" 1 ["thing"] (sp3 ⟨T, none⟩ phi_is_integer)) : FnOk P w K mg base CX0 2 f fd ["thing", "least"] (sp3 ⟨T, none⟩ phi_need_from) := by
  refine fn3 F sc_need_from (fun ds QD h => ?_) (fun cdv A outer s H E hr => ⟨_, _, (by exact qss_one (qs_if (PDW.pdt (qw_or (qt_not (qt_val (q_call h_is_integer (hr.mono (by decide)) (qa_cons (q_var 0) qa_nil)))) (qw_or1 (qt_cmp op_lt l_lt (by decide) (by decide) (q_var 0) (q_var 1))))) (qss_never) (qss_nil))), fun ds QD h => ?_⟩)
  · obtain ⟨n, k, rfl, _⟩ := h; rfl
  · obtain ⟨n, k, rfl, ok, h⟩ := h
    repeat (first | refine ⟨_, rfl, ?_⟩ | refine ⟨_, _, rfl, rfl, ?_⟩ | refine ⟨_, _, _, .inr rfl, rfl, rfl, ?_⟩ | refine ⟨_, _, _, .inl rfl, rfl, rfl, ?_⟩ | refine ⟨_, .inr rfl, ?_⟩ | refine ⟨_, .inl rfl, ?_⟩ | refine ⟨(by intro s z; cases z), ?_⟩ | refine ⟨Nat.le_of_ble_eq_true rfl, ?_⟩ | refine ⟨rfl, ?_⟩ | refine iteT ?_ | refine iteF ?_ | refine ⟨_, _, rfl, ?_⟩ | refine ⟨_, _, _, rfl, ?_⟩)
    refine iteN (decide_eq_false (by show ¬ (n : Int) < k; omega)) ?_
    exact h
def phi_inner_places : Phi := fun ds Q => ∃ w, ds = [eWeb w] ∧ 2 ≤ w.1 ∧ Q (eN (w.1 - 2))
abbrev s_inner_places : Stmt := topS 27
theorem sc_inner_places : FnScope ["growth"] ["growth"] (defScope s_inner_places) := ⟨rfl, rfl, rfl, by decide +kernel, rfl, by decide +kernel, by decide +kernel⟩
theorem ok_inner_places {f : Addr} {fd : FuncData} (F : Fun K "inner_places" "inner_places" s_inner_places f fd) (N : Nms mg)  : FnOk P w K mg base CX0 1 f fd ["growth"] (sp3 ⟨T, none⟩ phi_inner_places) := by
  refine fn3 F sc_inner_places (fun ds QD h => ?_) (fun cdv A outer s H E hr => ⟨_, _, (by exact qss_one (qs_ret (q_sub (q_ixK (q_var 0) q_int) q_int))), fun ds QD h => ?_⟩)
  · obtain ⟨w, rfl, _⟩ := h; rfl
  · obtain ⟨w, rfl, ok, h⟩ := h
    repeat (first | refine ⟨_, rfl, ?_⟩ | refine ⟨_, _, rfl, rfl, ?_⟩ | refine ⟨_, _, _, .inr rfl, rfl, rfl, ?_⟩ | refine ⟨_, _, _, .inl rfl, rfl, rfl, ?_⟩ | refine ⟨_, .inr rfl, ?_⟩ | refine ⟨_, .inl rfl, ?_⟩ | refine ⟨(by intro s z; cases z), ?_⟩ | refine ⟨Nat.le_of_ble_eq_true rfl, ?_⟩ | refine ⟨rfl, ?_⟩ | refine iteT ?_ | refine iteF ?_ | refine ⟨_, _, rfl, ?_⟩ | refine ⟨_, _, _, rfl, ?_⟩)
    exact byEq (Q := QD) h (by simp [eN]; omega)
end
end L3
namespace L3
open PySem L2
open PySem.Spec
theorem below_get {w : Web} {b : Book} (h : Below w b.length) {t : Tie} (ht : t ∈ w.2) : b[t.2.2]? = some (kd b t.2.2) := kd_get (h t ht)
theorem ix_book {b : Book} {c : Nat} {Q : PyData → Prop} (h : c < b.length) (q : Q (eWeb (kd b c))) : dIx (eBook b) (eN c) Q := ⟨_, _, _, .inr rfl, rfl, atI_map (kd_get h), q⟩
def nmL (t : Tie) (base n : Nat) : List Nat := (List.range n).map (nm t base)
theorem nmL_get {t : Tie} {base n x : Nat} (h : x < n) : (nmL t base n)[x]? = some (nm t base x) := by
  unfold nmL
  rw [List.getElem?_map, List.getElem?_range h]
  rfl
theorem rgD_nat (a k : Nat) : rgD (a : Nat) ((a : Nat) + (k : Nat) : Int) = (List.range k).map fun i => eN (a + i) := by
  unfold rgD
  have e : ((a : Int) + (k : Int) - (a : Int)).toNat = k := by omega
  rw [e]
  refine List.map_congr_left fun i _ => ?_
  simp [eN]
theorem nmL_two (t : Tie) (base k : Nat) : (nmL t base (k + 2)).map eN = eN t.1 :: eN t.2.1 :: (List.range k).map fun i => eN (base + i) := by
  unfold nmL
  rw [List.range_succ_eq_map, List.range_succ_eq_map]
  simp [nm, Function.comp_def]
  intro a _
  congr 1
section
variable {P : Program} {w : World} {K : PySem.W.Frag} {mg : Str → Option Value} {base : Heap} {T : List (Addr × Str)}
def phi_need_room : Phi := fun ds Q => ∃ w b, ds = [eWeb w, eBook b] ∧ BookOk b ∧ Below w b.length ∧ w.2.length ≤ 600 ∧ RoomOk b w ∧ Q .none
abbrev s_need_room : Stmt := topS 28
theorem sc_need_room : FnScope ["web", "book", "places", "tie"] ["web", "book"] (defScope s_need_room) := ⟨rfl, rfl, rfl, by decide +kernel, rfl, by decide +kernel, by decide +kernel⟩
theorem ok_need_room {f : Addr} {fd : FuncData} (F : Fun K "need_room" "need_room" s_need_room f fd) (N : Nms mg) (h_inner_places : Has P w K mg base "inner_places" 1 ["growth"] (sp3 ⟨T, none⟩ phi_inner_places)) : FnOk P w K mg base CX0 2 f fd ["web", "book"] (sp3 ⟨T, none⟩ phi_need_room) := by
  refine fn3 F sc_need_room (fun ds QD h => ?_) (fun cdv A outer s H E hr => ⟨_, _, (by exact qss_cons (qs_set (i := 2) sc_need_room.nd (q_add (q_ixK (q_var 0) q_int) (q_cb (cr_sumK rfl) l_sum rfl N.sum bt_sum (qa_cons (PDL.pde (ql_lc rfl sc_need_room.nd (own := [("tie", 3)]) (qi_tupK (q_ixK (q_var 0) q_int)) (blkOk_by (by rfl)) (fun _ _ _ _ _ => (qg_name (i := 3) sc_need_room.nd)) (fun _ _ _ _ _ => qts_nil) (fun _ _ _ _ _ => (q_call h_inner_places (hr.mono (by decide)) (qa_cons (q_ixK (q_var 1) (q_ixK (q_var 3) q_int)) qa_nil))) (by decide) s)) qa_nil)))) (qss_cons (qs_if (qt_cmp op_gt l_gt (by decide) (by decide) (q_var 2) (q_num N.most_places)) (qss_never) (qss_nil)) (qss_one (qs_if (qt_cmp op_gt l_gt (by decide) (by decide) (q_cb (cr_sumK rfl) l_sum rfl N.sum bt_sum (qa_cons (PDL.pde (ql_lc rfl sc_need_room.nd (own := [("tie", 3)]) (qi_tupK (q_ixK (q_var 0) q_int)) (blkOk_by (by rfl)) (fun _ _ _ _ _ => (qg_name (i := 3) sc_need_room.nd)) (fun _ _ _ _ _ => qts_nil) (fun _ _ _ _ _ => (q_cb call_lenK l_len rfl N.len PySem.boot_len (qa_cons (q_ixK (q_ixK (q_var 1) (q_ixK (q_var 3) q_int)) q_int) qa_nil))) (by decide) s)) qa_nil)) (q_num N.most_ties)) (qss_never) (qss_nil))))), fun ds QD h => ?_⟩)
  · obtain ⟨w, b, rfl, _⟩ := h; rfl
  · obtain ⟨w, b, rfl, ok, bel, few, rm, h⟩ := h
    repeat (first | refine ⟨_, rfl, ?_⟩ | refine ⟨_, _, rfl, rfl, ?_⟩ | refine ⟨_, _, _, .inr rfl, rfl, rfl, ?_⟩ | refine ⟨_, _, _, .inl rfl, rfl, rfl, ?_⟩ | refine ⟨_, .inr rfl, ?_⟩ | refine ⟨_, .inl rfl, ?_⟩ | refine ⟨(by intro s z; cases z), ?_⟩ | refine ⟨Nat.le_of_ble_eq_true rfl, ?_⟩ | refine ⟨rfl, ?_⟩ | refine iteT ?_ | refine iteF ?_ | refine ⟨_, _, rfl, ?_⟩ | refine ⟨_, _, _, rfl, ?_⟩)
    refine lc_map (enc := eTie) (f := fun t => eN (inn b t.2.2)) w.2 [] (by simp; omega) (fun t ht K hK => ?_) ?_
    · repeat (first | refine ⟨_, rfl, ?_⟩ | refine ⟨_, _, rfl, rfl, ?_⟩ | refine ⟨_, _, _, .inr rfl, rfl, rfl, ?_⟩ | refine ⟨_, _, _, .inl rfl, rfl, rfl, ?_⟩ | refine ⟨_, .inr rfl, ?_⟩ | refine ⟨_, .inl rfl, ?_⟩ | refine ⟨(by intro s z; cases z), ?_⟩ | refine ⟨Nat.le_of_ble_eq_true rfl, ?_⟩ | refine ⟨rfl, ?_⟩ | refine iteT ?_ | refine iteF ?_ | refine ⟨_, _, rfl, ?_⟩ | refine ⟨_, _, _, rfl, ?_⟩)
      refine ix_book (bel t ht) ?_
      exact ⟨_, rfl, (ok.webs _ (kd_mem (bel t ht))).2.1, hK⟩
    · refine ⟨(w.2.map fun t => inn b t.2.2).map fun (n : Nat) => (n : Int), by simp [eN], ?_⟩
      repeat (first | refine ⟨_, rfl, ?_⟩ | refine ⟨_, _, rfl, rfl, ?_⟩ | refine ⟨_, _, _, .inr rfl, rfl, rfl, ?_⟩ | refine ⟨_, _, _, .inl rfl, rfl, rfl, ?_⟩ | refine ⟨_, .inr rfl, ?_⟩ | refine ⟨_, .inl rfl, ?_⟩ | refine ⟨(by intro s z; cases z), ?_⟩ | refine ⟨Nat.le_of_ble_eq_true rfl, ?_⟩ | refine ⟨rfl, ?_⟩ | refine iteT ?_ | refine iteF ?_ | refine ⟨_, _, rfl, ?_⟩ | refine ⟨_, _, _, rfl, ?_⟩)
      refine iteN (decide_eq_false (by
        have := rm.places
        rw [round_places] at this
        rw [sum_cast]
        omega)) ?_
      repeat (first | refine ⟨_, rfl, ?_⟩ | refine ⟨_, _, rfl, rfl, ?_⟩ | refine ⟨_, _, _, .inr rfl, rfl, rfl, ?_⟩ | refine ⟨_, _, _, .inl rfl, rfl, rfl, ?_⟩ | refine ⟨_, .inr rfl, ?_⟩ | refine ⟨_, .inl rfl, ?_⟩ | refine ⟨(by intro s z; cases z), ?_⟩ | refine ⟨Nat.le_of_ble_eq_true rfl, ?_⟩ | refine ⟨rfl, ?_⟩ | refine iteT ?_ | refine iteF ?_ | refine ⟨_, _, rfl, ?_⟩ | refine ⟨_, _, _, rfl, ?_⟩)
      refine lc_map (enc := eTie) (f := fun t => eN (kd b t.2.2).2.length) w.2 [] (by simp; omega) (fun t ht K hK => ?_) ?_
      · repeat (first | refine ⟨_, rfl, ?_⟩ | refine ⟨_, _, rfl, rfl, ?_⟩ | refine ⟨_, _, _, .inr rfl, rfl, rfl, ?_⟩ | refine ⟨_, _, _, .inl rfl, rfl, rfl, ?_⟩ | refine ⟨_, .inr rfl, ?_⟩ | refine ⟨_, .inl rfl, ?_⟩ | refine ⟨(by intro s z; cases z), ?_⟩ | refine ⟨Nat.le_of_ble_eq_true rfl, ?_⟩ | refine ⟨rfl, ?_⟩ | refine iteT ?_ | refine iteF ?_ | refine ⟨_, _, rfl, ?_⟩ | refine ⟨_, _, _, rfl, ?_⟩)
        refine ix_book (bel t ht) ?_
        repeat (first | refine ⟨_, rfl, ?_⟩ | refine ⟨_, _, rfl, rfl, ?_⟩ | refine ⟨_, _, _, .inr rfl, rfl, rfl, ?_⟩ | refine ⟨_, _, _, .inl rfl, rfl, rfl, ?_⟩ | refine ⟨_, .inr rfl, ?_⟩ | refine ⟨_, .inl rfl, ?_⟩ | refine ⟨(by intro s z; cases z), ?_⟩ | refine ⟨Nat.le_of_ble_eq_true rfl, ?_⟩ | refine ⟨rfl, ?_⟩ | refine iteT ?_ | refine iteF ?_ | refine ⟨_, _, rfl, ?_⟩ | refine ⟨_, _, _, rfl, ?_⟩)
        exact byEq (Q := K) hK (by simp [eN])
      · refine ⟨(w.2.map fun t => (kd b t.2.2).2.length).map fun (n : Nat) => (n : Int), by simp [eN], ?_⟩
        repeat (first | refine ⟨_, rfl, ?_⟩ | refine ⟨_, _, rfl, rfl, ?_⟩ | refine ⟨_, _, _, .inr rfl, rfl, rfl, ?_⟩ | refine ⟨_, _, _, .inl rfl, rfl, rfl, ?_⟩ | refine ⟨_, .inr rfl, ?_⟩ | refine ⟨_, .inl rfl, ?_⟩ | refine ⟨(by intro s z; cases z), ?_⟩ | refine ⟨Nat.le_of_ble_eq_true rfl, ?_⟩ | refine ⟨rfl, ?_⟩ | refine iteT ?_ | refine iteF ?_ | refine ⟨_, _, rfl, ?_⟩ | refine ⟨_, _, _, rfl, ?_⟩)
        refine iteN (decide_eq_false (by
          have := rm.ties
          rw [round_ties] at this
          rw [sum_cast]
          omega)) ?_
        exact h
def phi_names_in : Phi := fun ds Q => ∃ t w n, ds = [eTie t, eWeb w, eN n] ∧ 2 ≤ w.1 ∧ w.1 ≤ 400 ∧ n ≤ 1000 ∧ Q (.tuple ((nmL t n w.1).map eN))
abbrev s_names_in : Stmt := topS 29
theorem sc_names_in : FnScope ["tie", "growth", "first"] ["tie", "growth", "first"] (defScope s_names_in) := ⟨rfl, rfl, rfl, by decide +kernel, rfl, by decide +kernel, by decide +kernel⟩
theorem ok_names_in {f : Addr} {fd : FuncData} (F : Fun K "names_in" "names_in" s_names_in f fd) (N : Nms mg) (h_inner_places : Has P w K mg base "inner_places" 1 ["growth"] (sp3 ⟨T, none⟩ phi_inner_places)) : FnOk P w K mg base CX0 2 f fd ["tie", "growth", "first"] (sp3 ⟨T, none⟩ phi_names_in) := by
  refine fn3 F sc_names_in (fun ds QD h => ?_) (fun cdv A outer s H E hr => ⟨_, _, (by exact qss_one (qs_ret (q_catK (q_slTK (q_var 0) qo_none (qo_some q_int)) (q_tupRg rfl rfl N.tuple (qr_2 rfl N.range (q_var 2) (q_add (q_var 2) (q_call h_inner_places (hr.mono (by decide)) (qa_cons (q_var 1) qa_nil)))))))), fun ds QD h => ?_⟩)
  · obtain ⟨t, w, n, rfl, _⟩ := h; rfl
  · obtain ⟨t, w, n, rfl, h2, h4, hn, h⟩ := h
    repeat (first | refine ⟨_, rfl, ?_⟩ | refine ⟨_, _, rfl, rfl, ?_⟩ | refine ⟨_, _, _, .inr rfl, rfl, rfl, ?_⟩ | refine ⟨_, _, _, .inl rfl, rfl, rfl, ?_⟩ | refine ⟨_, .inr rfl, ?_⟩ | refine ⟨_, .inl rfl, ?_⟩ | refine ⟨(by intro s z; cases z), ?_⟩ | refine ⟨Nat.le_of_ble_eq_true rfl, ?_⟩ | refine ⟨rfl, ?_⟩ | refine iteT ?_ | refine iteF ?_ | refine ⟨_, _, rfl, ?_⟩ | refine ⟨_, _, _, rfl, ?_⟩)
    refine ⟨h2, ?_⟩
    repeat (first | refine ⟨_, rfl, ?_⟩ | refine ⟨_, _, rfl, rfl, ?_⟩ | refine ⟨_, _, _, .inr rfl, rfl, rfl, ?_⟩ | refine ⟨_, _, _, .inl rfl, rfl, rfl, ?_⟩ | refine ⟨_, .inr rfl, ?_⟩ | refine ⟨_, .inl rfl, ?_⟩ | refine ⟨(by intro s z; cases z), ?_⟩ | refine ⟨Nat.le_of_ble_eq_true rfl, ?_⟩ | refine ⟨rfl, ?_⟩ | refine iteT ?_ | refine iteF ?_ | refine ⟨_, _, rfl, ?_⟩ | refine ⟨_, _, _, rfl, ?_⟩)
    refine ⟨RgOk.of_le (by omega) (by omega) (by omega) (by omega), _, _, rfl, rfl, ?_, ?_⟩
    · rw [rgD_nat]
      have e : (cutD [eN t.1, eN t.2.1, eN t.2.2] none (some 2)).length = 2 := rfl
      rw [e, List.length_map, List.length_range]
      omega
    · rw [rgD_nat]
      obtain ⟨k, hk⟩ : ∃ k, w.1 = k + 2 := ⟨w.1 - 2, by omega⟩
      rw [hk] at h ⊢
      rw [nmL_two] at h
      exact h
def phi_round_rows : Phi := fun ds Q => ∃ n ps b, ds = [eN n, .list (ps.map ePair), eBook b] ∧ BookOk b ∧ (∀ p ∈ ps, p.1.2.2 < b.length ∧ p.2.length ≤ 1000) ∧ (foundR b n ps).length ≤ 600 ∧ endR b n ps ≤ 400 ∧ Q (.tuple [eN (endR b n ps), .list ((sortE ePair (foundR b n ps)).map ePair)])
theorem endR_le (b : Book) (n : Nat) (ps : List (Tie × Row)) : n ≤ endR b n ps := by rw [endR_sum]; omega
theorem take_succ {α : Type} {xs : List α} {i : Nat} {x : α} (h : xs[i]? = some x) : xs.take (i + 1) = xs.take i ++ [x] := by rw [List.take_add_one, h]; rfl
theorem take_add {α : Type} {xs : List α} {i : Nat} {x : α} (h : xs[i]? = some x) : ∃ r, xs = xs.take i ++ x :: r := ⟨xs.drop (i + 1), by
  have hl := (List.getElem?_eq_some_iff.mp h).1
  have e := (List.getElem?_eq_some_iff.mp h).2
  rw [← e, ← List.drop_eq_getElem_cons hl, List.take_append_drop]⟩
abbrev s_round_rows : Stmt := topS 30
theorem sc_round_rows : FnScope ["places", "rows", "book", "found", "tie", "row", "growth", "names", "number", "tail", "head", "kind"] ["places", "rows", "book"] (defScope s_round_rows) := ⟨rfl, rfl, rfl, by decide +kernel, rfl, by decide +kernel, by decide +kernel⟩
theorem ok_round_rows {f : Addr} {fd : FuncData} (F : Fun K "round_rows" "round_rows" s_round_rows f fd) (N : Nms mg) (h_names_in : Has P w K mg base "names_in" 2 ["tie", "growth", "first"] (sp3 ⟨T, none⟩ phi_names_in)) (h_inner_places : Has P w K mg base "inner_places" 1 ["growth"] (sp3 ⟨T, none⟩ phi_inner_places)) : FnOk P w K mg base CX0 3 f fd ["places", "rows", "book"] (sp3 ⟨T, none⟩ phi_round_rows) := by
  refine fn3 F sc_round_rows (fun ds QD h => ?_) (fun cdv A outer s H E hr => ⟨_, _, (by have hu := hr.units; exact qss_cons (qs_setL (i := 3) sc_round_rows.nd (ql_lst qa_nil)) (qss_cons (qs_for PassesOwn.never rfl (qi_listK (q_var 1)) (qg_tupK (n := 2) rfl (qgs_cons (qg_name (i := 4) sc_round_rows.nd) (qgs_cons (qg_name (i := 5) sc_round_rows.nd) qgs_nil))) (qss_cons (qs_set (i := 6) sc_round_rows.nd (q_ixK (q_var 2) (q_ixK (q_var 4) q_int))) (qss_cons (qs_set (i := 7) sc_round_rows.nd (q_call h_names_in (hr.mono (by decide)) (qa_cons (q_var 4) (qa_cons (q_var 6) (qa_cons (q_var 0) qa_nil))))) (qss_cons (qs_aug (i := 0) sc_round_rows.nd (q_call h_inner_places (hr.mono (by decide)) (qa_cons (q_var 6) qa_nil)) ip_add) (qss_one (qs_for PassesOwn.never rfl (qi_enumTK rfl N.enumerate (q_ixK (q_var 6) q_int)) (qg_tupK (n := 2) rfl (qgs_cons (qg_name (i := 8) sc_round_rows.nd) (qgs_cons (qg_tupK (n := 3) rfl (qgs_cons (qg_name (i := 9) sc_round_rows.nd) (qgs_cons (qg_name (i := 10) sc_round_rows.nd) (qgs_cons (qg_name (i := 11) sc_round_rows.nd) qgs_nil)))) qgs_nil))) (qss_one (qs_app 3 (q_tup (qa_cons (q_tup (qa_cons (q_ixK (q_var 7) (q_var 9)) (qa_cons (q_ixK (q_var 7) (q_var 10)) (qa_cons (q_var 11) qa_nil)))) (qa_cons (q_catK (q_var 5) (q_tup (qa_cons (q_var 8) qa_nil))) qa_nil))))))))))) (qss_fz 3 (qss_one (qs_ret (q_tup (qa_cons (q_var 0) (qa_cons (PDL.pde (ql_sorted hu rfl N.sorted (q_var 3))) qa_nil)))))))), fun ds QD h => ?_⟩)
  · obtain ⟨n, ps, b, rfl, _⟩ := h; rfl
  · obtain ⟨n, ps, b, rfl, ok, hp, few, small, h⟩ := h
    repeat (first | refine ⟨_, rfl, ?_⟩ | refine ⟨_, _, rfl, rfl, ?_⟩ | refine ⟨_, _, _, .inr rfl, rfl, rfl, ?_⟩ | refine ⟨_, _, _, .inl rfl, rfl, rfl, ?_⟩ | refine ⟨_, .inr rfl, ?_⟩ | refine ⟨_, .inl rfl, ?_⟩ | refine ⟨(by intro s z; cases z), ?_⟩ | refine ⟨Nat.le_of_ble_eq_true rfl, ?_⟩ | refine ⟨rfl, ?_⟩ | refine iteT ?_ | refine iteF ?_ | refine ⟨_, _, rfl, ?_⟩ | refine ⟨_, _, _, rfl, ?_⟩)
    refine for_ind (enc := ePair) (fun i ρ => ∃ c4 c5 c6 c7 c8 c9 c10 c11, ρ = [.dat (eN (endR b n (ps.take i))), .dat (.list (ps.map ePair)), .dat (eBook b), .own ((foundR b n (ps.take i)).map ePair), c4, c5, c6, c7, c8, c9, c10, c11]) ps 0 _ ⟨_, _, _, _, _, _, _, _, rfl⟩ (fun i p ρ hi hI K' hK => ?_) (fun ρ hI => ?_)
    · obtain ⟨c4, c5, c6, c7, c8, c9, c10, c11, rfl⟩ := hI
      rw [Nat.zero_add] at hK ⊢
      obtain ⟨hc, hrow⟩ := hp p (List.mem_of_getElem? hi)
      obtain ⟨k1, k2, k3⟩ := ok.webs _ (kd_mem hc)
      obtain ⟨rest, hrest⟩ := take_add hi
      have hend : endR b n (ps.take i) + inn b p.1.2.2 ≤ 400 := by
        have e := congrArg (endR b n) hrest
        rw [endR_app, endR] at e
        have := endR_le b (endR b n (ps.take i) + inn b p.1.2.2) rest
        omega
      have hfl : (foundR b n (ps.take i)).length + (kd b p.1.2.2).2.length ≤ 600 := by
        have e := congrArg (fun l => (foundR b n l).length) hrest
        simp only [foundR_app, foundR, List.length_append, kids_len] at e
        omega
      repeat (first | refine ⟨_, rfl, ?_⟩ | refine ⟨_, _, rfl, rfl, ?_⟩ | refine ⟨_, _, _, .inr rfl, rfl, rfl, ?_⟩ | refine ⟨_, _, _, .inl rfl, rfl, rfl, ?_⟩ | refine ⟨_, .inr rfl, ?_⟩ | refine ⟨_, .inl rfl, ?_⟩ | refine ⟨(by intro s z; cases z), ?_⟩ | refine ⟨Nat.le_of_ble_eq_true rfl, ?_⟩ | refine ⟨rfl, ?_⟩ | refine iteT ?_ | refine iteF ?_ | refine ⟨_, _, rfl, ?_⟩ | refine ⟨_, _, _, rfl, ?_⟩)
      refine ix_book hc ?_
      repeat (first | refine ⟨_, rfl, ?_⟩ | refine ⟨_, _, rfl, rfl, ?_⟩ | refine ⟨_, _, _, .inr rfl, rfl, rfl, ?_⟩ | refine ⟨_, _, _, .inl rfl, rfl, rfl, ?_⟩ | refine ⟨_, .inr rfl, ?_⟩ | refine ⟨_, .inl rfl, ?_⟩ | refine ⟨(by intro s z; cases z), ?_⟩ | refine ⟨Nat.le_of_ble_eq_true rfl, ?_⟩ | refine ⟨rfl, ?_⟩ | refine iteT ?_ | refine iteF ?_ | refine ⟨_, _, rfl, ?_⟩ | refine ⟨_, _, _, rfl, ?_⟩)
      refine ⟨k2, k1.small, by omega, ?_⟩
      repeat (first | refine ⟨_, rfl, ?_⟩ | refine ⟨_, _, rfl, rfl, ?_⟩ | refine ⟨_, _, _, .inr rfl, rfl, rfl, ?_⟩ | refine ⟨_, _, _, .inl rfl, rfl, rfl, ?_⟩ | refine ⟨_, .inr rfl, ?_⟩ | refine ⟨_, .inl rfl, ?_⟩ | refine ⟨(by intro s z; cases z), ?_⟩ | refine ⟨Nat.le_of_ble_eq_true rfl, ?_⟩ | refine ⟨rfl, ?_⟩ | refine iteT ?_ | refine iteF ?_ | refine ⟨_, _, rfl, ?_⟩ | refine ⟨_, _, _, rfl, ?_⟩)
      refine ⟨k2, ?_⟩
      repeat (first | refine ⟨_, rfl, ?_⟩ | refine ⟨_, _, rfl, rfl, ?_⟩ | refine ⟨_, _, _, .inr rfl, rfl, rfl, ?_⟩ | refine ⟨_, _, _, .inl rfl, rfl, rfl, ?_⟩ | refine ⟨_, .inr rfl, ?_⟩ | refine ⟨_, .inl rfl, ?_⟩ | refine ⟨(by intro s z; cases z), ?_⟩ | refine ⟨Nat.le_of_ble_eq_true rfl, ?_⟩ | refine ⟨rfl, ?_⟩ | refine iteT ?_ | refine iteF ?_ | refine ⟨_, _, rfl, ?_⟩ | refine ⟨_, _, _, rfl, ?_⟩)
      rw [enD_num]
      refine for_ind (enc := fun q : Nat × Tie => PyData.tuple [eN q.1, eTie q.2]) (fun j ρ => ∃ c8 c9 c10 c11, ρ = [.dat (eN (endR b n (ps.take (i + 1)))), .dat (.list (ps.map ePair)), .dat (eBook b), .own ((foundR b n (ps.take i) ++ (kids b (endR b n (ps.take i)) p).take j).map ePair), .dat (eTie p.1), .dat (eRow p.2), .dat (eWeb (kd b p.1.2.2)), .dat (.tuple ((nmL p.1 (endR b n (ps.take i)) (kd b p.1.2.2).1).map eN)), c8, c9, c10, c11]) (num 0 (kd b p.1.2.2).2) 0 _ ⟨c8, c9, c10, c11, ?_⟩ (fun j q ρ hj hI K2 hK2 => ?_) (fun ρ hI => ?_)
      · rw [take_succ hi, endR_app]
        simp [endR, eN, inn]
      · obtain ⟨c8, c9, c10, c11, rfl⟩ := hI
        rw [Nat.zero_add] at hK2 ⊢
        obtain ⟨_, hq⟩ := num_mem (List.mem_of_getElem? hj)
        have tok := k1.ties _ (List.mem_of_getElem? hq)
        repeat (first | refine ⟨_, rfl, ?_⟩ | refine ⟨_, _, rfl, rfl, ?_⟩ | refine ⟨_, _, _, .inr rfl, rfl, rfl, ?_⟩ | refine ⟨_, _, _, .inl rfl, rfl, rfl, ?_⟩ | refine ⟨_, .inr rfl, ?_⟩ | refine ⟨_, .inl rfl, ?_⟩ | refine ⟨(by intro s z; cases z), ?_⟩ | refine ⟨Nat.le_of_ble_eq_true rfl, ?_⟩ | refine ⟨rfl, ?_⟩ | refine iteT ?_ | refine iteF ?_ | refine ⟨_, _, rfl, ?_⟩ | refine ⟨_, _, _, rfl, ?_⟩)
        refine ⟨?_, ?_⟩
        · rw [List.length_map, List.length_append, List.length_take, kids_len]
          omega
        repeat (first | refine ⟨_, rfl, ?_⟩ | refine ⟨_, _, rfl, rfl, ?_⟩ | refine ⟨_, _, _, .inr rfl, rfl, rfl, ?_⟩ | refine ⟨_, _, _, .inl rfl, rfl, rfl, ?_⟩ | refine ⟨_, .inr rfl, ?_⟩ | refine ⟨_, .inl rfl, ?_⟩ | refine ⟨(by intro s z; cases z), ?_⟩ | refine ⟨Nat.le_of_ble_eq_true rfl, ?_⟩ | refine ⟨rfl, ?_⟩ | refine iteT ?_ | refine iteF ?_ | refine ⟨_, _, rfl, ?_⟩ | refine ⟨_, _, _, rfl, ?_⟩)
        refine ⟨_, _, _, .inr rfl, rfl, atI_map (nmL_get tok.a), ?_⟩
        repeat (first | refine ⟨_, rfl, ?_⟩ | refine ⟨_, _, rfl, rfl, ?_⟩ | refine ⟨_, _, _, .inr rfl, rfl, rfl, ?_⟩ | refine ⟨_, _, _, .inl rfl, rfl, rfl, ?_⟩ | refine ⟨_, .inr rfl, ?_⟩ | refine ⟨_, .inl rfl, ?_⟩ | refine ⟨(by intro s z; cases z), ?_⟩ | refine ⟨Nat.le_of_ble_eq_true rfl, ?_⟩ | refine ⟨rfl, ?_⟩ | refine iteT ?_ | refine iteF ?_ | refine ⟨_, _, rfl, ?_⟩ | refine ⟨_, _, _, rfl, ?_⟩)
        refine ⟨_, _, _, .inr rfl, rfl, atI_map (nmL_get tok.b), ?_⟩
        repeat (first | refine ⟨_, rfl, ?_⟩ | refine ⟨_, _, rfl, rfl, ?_⟩ | refine ⟨_, _, _, .inr rfl, rfl, rfl, ?_⟩ | refine ⟨_, _, _, .inl rfl, rfl, rfl, ?_⟩ | refine ⟨_, .inr rfl, ?_⟩ | refine ⟨_, .inl rfl, ?_⟩ | refine ⟨(by intro s z; cases z), ?_⟩ | refine ⟨Nat.le_of_ble_eq_true rfl, ?_⟩ | refine ⟨rfl, ?_⟩ | refine iteT ?_ | refine iteF ?_ | refine ⟨_, _, rfl, ?_⟩ | refine ⟨_, _, _, rfl, ?_⟩)
        refine ⟨by simp; omega, ?_⟩
        repeat (first | refine ⟨_, rfl, ?_⟩ | refine ⟨_, _, rfl, rfl, ?_⟩ | refine ⟨_, _, _, .inr rfl, rfl, rfl, ?_⟩ | refine ⟨_, _, _, .inl rfl, rfl, rfl, ?_⟩ | refine ⟨_, .inr rfl, ?_⟩ | refine ⟨_, .inl rfl, ?_⟩ | refine ⟨(by intro s z; cases z), ?_⟩ | refine ⟨Nat.le_of_ble_eq_true rfl, ?_⟩ | refine ⟨rfl, ?_⟩ | refine iteT ?_ | refine iteF ?_ | refine ⟨_, _, rfl, ?_⟩ | refine ⟨_, _, _, rfl, ?_⟩)
        refine hK2 _ ⟨.dat (eN q.1), .dat (eN q.2.1), .dat (eN q.2.2.1), .dat (eN q.2.2.2), ?_⟩
        have hk : (kids b (endR b n (ps.take i)) p)[j]? = some (kidOf p (endR b n (ps.take i)) q) := by
          unfold kids
          rw [List.getElem?_map, hj]
          rfl
        rw [take_succ hk]
        simp [eN, ePair, eTie, eRow, kidOf]
      · obtain ⟨c8, c9, c10, c11, rfl⟩ := hI
        have e : foundR b n (ps.take i) ++ (kids b (endR b n (ps.take i)) p).take (0 + (num 0 (kd b p.1.2.2).2).length) = foundR b n (ps.take (i + 1)) := by
          rw [take_succ hi, foundR_app, foundR, foundR, List.append_nil, List.take_of_length_le (l := kids b (endR b n (ps.take i)) p) (by rw [kids_len, num_len]; omega)]
        rw [e]
        exact hK _ ⟨_, _, _, _, _, _, _, _, rfl⟩
    · obtain ⟨c4, c5, c6, c7, c8, c9, c10, c11, rfl⟩ := hI
      rw [Nat.zero_add, List.take_length]
      repeat (first | refine ⟨_, rfl, ?_⟩ | refine ⟨_, _, rfl, rfl, ?_⟩ | refine ⟨_, _, _, .inr rfl, rfl, rfl, ?_⟩ | refine ⟨_, _, _, .inl rfl, rfl, rfl, ?_⟩ | refine ⟨_, .inr rfl, ?_⟩ | refine ⟨_, .inl rfl, ?_⟩ | refine ⟨(by intro s z; cases z), ?_⟩ | refine ⟨Nat.le_of_ble_eq_true rfl, ?_⟩ | refine ⟨rfl, ?_⟩ | refine iteT ?_ | refine iteF ?_ | refine ⟨_, _, rfl, ?_⟩ | refine ⟨_, _, _, rfl, ?_⟩)
      refine ⟨sortOk enc_pair (fun b => ⟨_, _, rfl⟩) (by omega), ?_⟩
      rw [srtD_map]
      repeat (first | refine ⟨_, rfl, ?_⟩ | refine ⟨_, _, rfl, rfl, ?_⟩ | refine ⟨_, _, _, .inr rfl, rfl, rfl, ?_⟩ | refine ⟨_, _, _, .inl rfl, rfl, rfl, ?_⟩ | refine ⟨_, .inr rfl, ?_⟩ | refine ⟨_, .inl rfl, ?_⟩ | refine ⟨(by intro s z; cases z), ?_⟩ | refine ⟨Nat.le_of_ble_eq_true rfl, ?_⟩ | refine ⟨rfl, ?_⟩ | refine iteT ?_ | refine iteF ?_ | refine ⟨_, _, rfl, ?_⟩ | refine ⟨_, _, _, rfl, ?_⟩)
      exact h
def phi_raw_round : Phi := fun ds Q => ∃ w b, ds = [eWeb w, eBook b] ∧ BookOk b ∧ Below w b.length ∧ w.2.length ≤ 600 ∧ RoomOk b w ∧ Q (eWeb (round b w))
abbrev s_raw_round : Stmt := topS 31
theorem sc_raw_round : FnScope ["web", "book", "places", "rows", "tie", "row"] ["web", "book"] (defScope s_raw_round) := ⟨rfl, rfl, rfl, by decide +kernel, rfl, by decide +kernel, by decide +kernel⟩
theorem ok_raw_round {f : Addr} {fd : FuncData} (F : Fun K "raw_round" "raw_round" s_raw_round f fd) (N : Nms mg) (h_round_rows : Has P w K mg base "round_rows" 3 ["places", "rows", "book"] (sp3 ⟨T, none⟩ phi_round_rows)) : FnOk P w K mg base CX0 4 f fd ["web", "book"] (sp3 ⟨T, none⟩ phi_raw_round) := by
  refine fn3 F sc_raw_round (fun ds QD h => ?_) (fun cdv A outer s H E hr => ⟨_, _, (by exact qss_cons (qs_asg (q_call h_round_rows (hr.mono (by decide)) (qa_cons (q_ixK (q_var 0) q_int) (qa_cons (PDL.pde (ql_lc rfl sc_raw_round.nd (own := [("tie", 4)]) (qi_tupK (q_ixK (q_var 0) q_int)) (blkOk_by (by rfl)) (fun _ _ _ _ _ => (qg_name (i := 4) sc_raw_round.nd)) (fun _ _ _ _ _ => qts_nil) (fun _ _ _ _ _ => (q_tup (qa_cons (q_var 4) (qa_cons (q_tup qa_nil) qa_nil)))) (by decide) s)) (qa_cons (q_var 1) qa_nil)))) (qg_tupK (n := 2) rfl (qgs_cons (qg_name (i := 2) sc_raw_round.nd) (qgs_cons (qg_name (i := 3) sc_raw_round.nd) qgs_nil)))) (qss_one (qs_ret (q_tup (qa_cons (q_var 2) (qa_cons (q_cty call_tuple_of l_tuple rfl N.tuple bt_tuple (qa_cons (PDL.pde (ql_lc rfl sc_raw_round.nd (own := [("tie", 4), ("row", 5)]) (qi_listK (q_var 3)) (blkOk_by (by rfl)) (fun _ _ _ _ _ => (qg_tupK (n := 2) rfl (qgs_cons (qg_name (i := 4) sc_raw_round.nd) (qgs_cons (qg_name (i := 5) sc_raw_round.nd) qgs_nil)))) (fun _ _ _ _ _ => qts_nil) (fun _ _ _ _ _ => (q_var 4)) (by decide) s)) qa_nil)) qa_nil)))))), fun ds QD h => ?_⟩)
  · obtain ⟨w, b, rfl, _⟩ := h; rfl
  · obtain ⟨w, b, rfl, ok, bel, few, rm, h⟩ := h
    repeat (first | refine ⟨_, rfl, ?_⟩ | refine ⟨_, _, rfl, rfl, ?_⟩ | refine ⟨_, _, _, .inr rfl, rfl, rfl, ?_⟩ | refine ⟨_, _, _, .inl rfl, rfl, rfl, ?_⟩ | refine ⟨_, .inr rfl, ?_⟩ | refine ⟨_, .inl rfl, ?_⟩ | refine ⟨(by intro s z; cases z), ?_⟩ | refine ⟨Nat.le_of_ble_eq_true rfl, ?_⟩ | refine ⟨rfl, ?_⟩ | refine iteT ?_ | refine iteF ?_ | refine ⟨_, _, rfl, ?_⟩ | refine ⟨_, _, _, rfl, ?_⟩)
    refine lc_map (enc := eTie) (f := fun t => ePair (t, [])) w.2 [] (by simp; omega) (fun t ht K hK => ?_) ?_
    · repeat (first | refine ⟨_, rfl, ?_⟩ | refine ⟨_, _, rfl, rfl, ?_⟩ | refine ⟨_, _, _, .inr rfl, rfl, rfl, ?_⟩ | refine ⟨_, _, _, .inl rfl, rfl, rfl, ?_⟩ | refine ⟨_, .inr rfl, ?_⟩ | refine ⟨_, .inl rfl, ?_⟩ | refine ⟨(by intro s z; cases z), ?_⟩ | refine ⟨Nat.le_of_ble_eq_true rfl, ?_⟩ | refine ⟨rfl, ?_⟩ | refine iteT ?_ | refine iteF ?_ | refine ⟨_, _, rfl, ?_⟩ | refine ⟨_, _, _, rfl, ?_⟩)
      exact hK
    · repeat (first | refine ⟨_, rfl, ?_⟩ | refine ⟨_, _, rfl, rfl, ?_⟩ | refine ⟨_, _, _, .inr rfl, rfl, rfl, ?_⟩ | refine ⟨_, _, _, .inl rfl, rfl, rfl, ?_⟩ | refine ⟨_, .inr rfl, ?_⟩ | refine ⟨_, .inl rfl, ?_⟩ | refine ⟨(by intro s z; cases z), ?_⟩ | refine ⟨Nat.le_of_ble_eq_true rfl, ?_⟩ | refine ⟨rfl, ?_⟩ | refine iteT ?_ | refine iteF ?_ | refine ⟨_, _, rfl, ?_⟩ | refine ⟨_, _, _, rfl, ?_⟩)
      refine ⟨w.1, bare w.2, b, ?_, ok, fun p hp => ?_, ?_, rm.places, ?_⟩
      · simp [bare, Function.comp_def]
      · obtain ⟨t, ht, rfl⟩ := List.mem_map.mp hp
        exact ⟨bel t ht, by simp⟩
      · have := rm.ties
        rw [round_ties] at this
        rw [foundR_sum]
        unfold bare
        rw [List.map_map]
        exact this
      · repeat (first | refine ⟨_, rfl, ?_⟩ | refine ⟨_, _, rfl, rfl, ?_⟩ | refine ⟨_, _, _, .inr rfl, rfl, rfl, ?_⟩ | refine ⟨_, _, _, .inl rfl, rfl, rfl, ?_⟩ | refine ⟨_, .inr rfl, ?_⟩ | refine ⟨_, .inl rfl, ?_⟩ | refine ⟨(by intro s z; cases z), ?_⟩ | refine ⟨Nat.le_of_ble_eq_true rfl, ?_⟩ | refine ⟨rfl, ?_⟩ | refine iteT ?_ | refine iteF ?_ | refine ⟨_, _, rfl, ?_⟩ | refine ⟨_, _, _, rfl, ?_⟩)
        refine lc_map (enc := ePair) (f := fun p => eTie p.1) _ [] ?_ (fun t ht K hK => ?_) ?_
        · have := rm.ties
          have e : (sortE ePair (foundR b w.1 (bare w.2))).length = (round b w).2.length := by
            show _ = ((sortE ePair (foundR b w.1 (bare w.2))).map (·.1)).length
            rw [List.length_map]
          simp
          omega
        · repeat (first | refine ⟨_, rfl, ?_⟩ | refine ⟨_, _, rfl, rfl, ?_⟩ | refine ⟨_, _, _, .inr rfl, rfl, rfl, ?_⟩ | refine ⟨_, _, _, .inl rfl, rfl, rfl, ?_⟩ | refine ⟨_, .inr rfl, ?_⟩ | refine ⟨_, .inl rfl, ?_⟩ | refine ⟨(by intro s z; cases z), ?_⟩ | refine ⟨Nat.le_of_ble_eq_true rfl, ?_⟩ | refine ⟨rfl, ?_⟩ | refine iteT ?_ | refine iteF ?_ | refine ⟨_, _, rfl, ?_⟩ | refine ⟨_, _, _, rfl, ?_⟩)
          exact hK
        · repeat (first | refine ⟨_, rfl, ?_⟩ | refine ⟨_, _, rfl, rfl, ?_⟩ | refine ⟨_, _, _, .inr rfl, rfl, rfl, ?_⟩ | refine ⟨_, _, _, .inl rfl, rfl, rfl, ?_⟩ | refine ⟨_, .inr rfl, ?_⟩ | refine ⟨_, .inl rfl, ?_⟩ | refine ⟨(by intro s z; cases z), ?_⟩ | refine ⟨Nat.le_of_ble_eq_true rfl, ?_⟩ | refine ⟨rfl, ?_⟩ | refine iteT ?_ | refine iteF ?_ | refine ⟨_, _, rfl, ?_⟩ | refine ⟨_, _, _, rfl, ?_⟩)
          refine byEq (Q := QD) h ?_
          show eWeb (round b w) = _
          unfold round roundR eWeb eTies
          simp [Function.comp_def]
def phi_one_round : Phi := fun ds Q => ∃ w b, ds = [eWeb w, eBook b] ∧ WebOk w ∧ BookOk b ∧ Below w b.length ∧ RoomOk b w ∧ Q (eWeb (round b w))
abbrev s_one_round : Stmt := topS 32
theorem sc_one_round : FnScope ["web", "book"] ["web", "book"] (defScope s_one_round) := ⟨rfl, rfl, rfl, by decide +kernel, rfl, by decide +kernel, by decide +kernel⟩
theorem ok_one_round {f : Addr} {fd : FuncData} (F : Fun K "one_round" "one_round" s_one_round f fd) (N : Nms mg) (h_need_web : Has P w K mg base "need_web" 5 ["web"] (sp3 ⟨T, none⟩ phi_need_web)) (h_need_room : Has P w K mg base "need_room" 2 ["web", "book"] (sp3 ⟨T, none⟩ phi_need_room)) (h_raw_round : Has P w K mg base "raw_round" 4 ["web", "book"] (sp3 ⟨T, none⟩ phi_raw_round)) (h_is_book_value : Has P w K mg base "is_book_value" 6 ["thing"] (sp3 ⟨T, none⟩ phi_is_book_value)) (h_has_kinds_below : Has P w K mg base "has_kinds_below" 1 ["web", "many"] (sp3 ⟨T, none⟩ phi_has_kinds_below)) : FnOk P w K mg base CX0 7 f fd ["web", "book"] (sp3 ⟨T, none⟩ phi_one_round) := by
  refine fn3 F sc_one_round (fun ds QD h => ?_) (fun cdv A outer s H E hr => ⟨_, _, (by exact qss_cons (qs_expr (q_call h_need_web (hr.mono (by decide)) (qa_cons (q_var 0) qa_nil))) (qss_cons (qs_if (PDW.pdt (qw_or (qt_not (qt_val (q_call h_is_book_value (hr.mono (by decide)) (qa_cons (q_var 1) qa_nil)))) (qw_or1 (qt_not (qt_val (q_call h_has_kinds_below (hr.mono (by decide)) (qa_cons (q_var 0) (qa_cons (q_cb call_lenK l_len rfl N.len PySem.boot_len (qa_cons (q_var 1) qa_nil)) qa_nil)))))))) (qss_never) (qss_nil)) (qss_cons (qs_expr (q_call h_need_room (hr.mono (by decide)) (qa_cons (q_var 0) (qa_cons (q_var 1) qa_nil)))) (qss_one (qs_ret (q_call h_raw_round (hr.mono (by decide)) (qa_cons (q_var 0) (qa_cons (q_var 1) qa_nil)))))))), fun ds QD h => ?_⟩)
  · obtain ⟨w, b, rfl, _⟩ := h; rfl
  · obtain ⟨w, b, rfl, wok, ok, bel, rm, h⟩ := h
    repeat (first | refine ⟨_, rfl, ?_⟩ | refine ⟨_, _, rfl, rfl, ?_⟩ | refine ⟨_, _, _, .inr rfl, rfl, rfl, ?_⟩ | refine ⟨_, _, _, .inl rfl, rfl, rfl, ?_⟩ | refine ⟨_, .inr rfl, ?_⟩ | refine ⟨_, .inl rfl, ?_⟩ | refine ⟨(by intro s z; cases z), ?_⟩ | refine ⟨Nat.le_of_ble_eq_true rfl, ?_⟩ | refine ⟨rfl, ?_⟩ | refine iteT ?_ | refine iteF ?_ | refine ⟨_, _, rfl, ?_⟩ | refine ⟨_, _, _, rfl, ?_⟩)
    refine ⟨wok, ?_⟩
    repeat (first | refine ⟨_, rfl, ?_⟩ | refine ⟨_, _, rfl, rfl, ?_⟩ | refine ⟨_, _, _, .inr rfl, rfl, rfl, ?_⟩ | refine ⟨_, _, _, .inl rfl, rfl, rfl, ?_⟩ | refine ⟨_, .inr rfl, ?_⟩ | refine ⟨_, .inl rfl, ?_⟩ | refine ⟨(by intro s z; cases z), ?_⟩ | refine ⟨Nat.le_of_ble_eq_true rfl, ?_⟩ | refine ⟨rfl, ?_⟩ | refine iteT ?_ | refine iteF ?_ | refine ⟨_, _, rfl, ?_⟩ | refine ⟨_, _, _, rfl, ?_⟩)
    refine ⟨ok, ?_⟩
    repeat (first | refine ⟨_, rfl, ?_⟩ | refine ⟨_, _, rfl, rfl, ?_⟩ | refine ⟨_, _, _, .inr rfl, rfl, rfl, ?_⟩ | refine ⟨_, _, _, .inl rfl, rfl, rfl, ?_⟩ | refine ⟨_, .inr rfl, ?_⟩ | refine ⟨_, .inl rfl, ?_⟩ | refine ⟨(by intro s z; cases z), ?_⟩ | refine ⟨Nat.le_of_ble_eq_true rfl, ?_⟩ | refine ⟨rfl, ?_⟩ | refine iteT ?_ | refine iteF ?_ | refine ⟨_, _, rfl, ?_⟩ | refine ⟨_, _, _, rfl, ?_⟩)
    refine ⟨wok.few, by rw [List.length_map]; exact bel, ?_⟩
    repeat (first | refine ⟨_, rfl, ?_⟩ | refine ⟨_, _, rfl, rfl, ?_⟩ | refine ⟨_, _, _, .inr rfl, rfl, rfl, ?_⟩ | refine ⟨_, _, _, .inl rfl, rfl, rfl, ?_⟩ | refine ⟨_, .inr rfl, ?_⟩ | refine ⟨_, .inl rfl, ?_⟩ | refine ⟨(by intro s z; cases z), ?_⟩ | refine ⟨Nat.le_of_ble_eq_true rfl, ?_⟩ | refine ⟨rfl, ?_⟩ | refine iteT ?_ | refine iteF ?_ | refine ⟨_, _, rfl, ?_⟩ | refine ⟨_, _, _, rfl, ?_⟩)
    refine ⟨ok, bel, wok.few, rm, ?_⟩
    repeat (first | refine ⟨_, rfl, ?_⟩ | refine ⟨_, _, rfl, rfl, ?_⟩ | refine ⟨_, _, _, .inr rfl, rfl, rfl, ?_⟩ | refine ⟨_, _, _, .inl rfl, rfl, rfl, ?_⟩ | refine ⟨_, .inr rfl, ?_⟩ | refine ⟨_, .inl rfl, ?_⟩ | refine ⟨(by intro s z; cases z), ?_⟩ | refine ⟨Nat.le_of_ble_eq_true rfl, ?_⟩ | refine ⟨rfl, ?_⟩ | refine iteT ?_ | refine iteF ?_ | refine ⟨_, _, rfl, ?_⟩ | refine ⟨_, _, _, rfl, ?_⟩)
    exact ⟨ok, bel, wok.few, rm, h⟩
end
end L3
namespace L3
open PySem L2
open PySem.Spec
theorem atI_snoc {xs : List PyData} {x : PyData} : atI (xs ++ [x]) (-1) = some x := by
  have e : (-1 + ((xs.length : Int) + 1)).toNat = xs.length := by omega
  have e1 : (1 : Int) ≤ (xs.length : Int) + 1 := by omega
  unfold atI ixN
  simp [e, e1]
theorem ix_ties {w : Web} {r : Nat} {Q : PyData → Prop} (h : r < w.2.length) (q : Q (eTie (tieG w r))) : dIx (.tuple (w.2.map eTie)) (eN r) Q := ⟨_, _, _, .inr rfl, rfl, atI_map (tieG_get h), q⟩
theorem take_pre {α : Type} {xs : List α} {i : Nat} {x : α} (h : xs[i]? = some x) : ∃ r, xs = xs.take i ++ x :: r := take_add h
theorem cut_take (xs : List PyData) (k : Nat) : cutD xs none (some (k : Int)) = xs.take k := by
  unfold cutD
  rw [HT.sIx_none, HT.sIx_nat, List.drop_zero, Nat.sub_zero]
  by_cases h : k ≤ xs.length
  · rw [Nat.min_eq_left h]
  · rw [Nat.min_eq_right (by omega), List.take_of_length_le (Nat.le_refl _), List.take_of_length_le (by omega)]
theorem pick_at {s : Ends3} {r : Row} {y : Nat} (h : y < 2) : atI [eAdr s.1, eAdr s.2.1] (y : Nat) = some (eAdr (pick s r y)) := by
  match y, h with
  | 0, _ => rfl
  | 1, _ => rfl
section
variable {P : Program} {w : World} {K : PySem.W.Frag} {mg : Str → Option Value} {base : Heap} {T : List (Addr × Str)}
def phi_kinds_along : Phi := fun ds Q => ∃ g row, ds = [eGar g, eRow row] ∧ GarOk g ∧ RowIn g.2 g.1 row ∧ row.length ≤ 1000 ∧ Q (.list ((kseq g.2 g.1 row).map eN))
abbrev s_kinds_along : Stmt := topS 38
theorem sc_kinds_along : FnScope ["garden", "thing", "number", "start", "book", "found", "web"] ["garden", "thing"] (defScope s_kinds_along) := ⟨rfl, rfl, rfl, by decide +kernel, rfl, by decide +kernel, by decide +kernel⟩
theorem ok_kinds_along {f : Addr} {fd : FuncData} (F : Fun K "kinds_along" "kinds_along" s_kinds_along f fd) (N : Nms mg) (h_is_between : Has P w K mg base "is_between" 2 ["thing", "least", "most"] (sp3 ⟨T, none⟩ phi_is_between)) : FnOk P w K mg base CX0 3 f fd ["garden", "thing"] (sp3 ⟨T, none⟩ phi_kinds_along) := by
  refine fn3 F sc_kinds_along (fun ds QD h => ?_) (fun cdv A outer s H E hr => ⟨_, _, (by exact qss_cons (qs_asg (q_var 0) (qg_tupK (n := 2) rfl (qgs_cons (qg_name (i := 3) sc_kinds_along.nd) (qgs_cons (qg_name (i := 4) sc_kinds_along.nd) qgs_nil)))) (qss_cons (qs_parL1 (i := 5) (j := 6) rfl sc_kinds_along.nd rfl rfl (by decide) rfl rfl (ql_lst qa_nil) (q_var 3) (by rfl)) (qss_cons (qs_for PassesOwn.never rfl (qi_tupK (q_var 1)) (qg_name (i := 2) sc_kinds_along.nd) (qss_cons (qs_if (qt_not (qt_val (q_call h_is_between (hr.mono (by decide)) (qa_cons (q_var 2) (qa_cons q_int (qa_cons (q_sub (q_cb call_lenK l_len rfl N.len PySem.boot_len (qa_cons (q_ixK (q_var 6) q_int) qa_nil)) q_int) qa_nil)))))) (qss_one (qs_ret q_non)) (qss_nil)) (qss_cons (qs_app 5 (q_ixK (q_ixK (q_ixK (q_var 6) q_int) (q_var 2)) q_int)) (qss_one (qs_set (i := 6) sc_kinds_along.nd (q_ixK (q_var 4) (q_ixO 5 (q_neg q_int)))))))) (qss_fz 5 (qss_one (qs_ret (q_var 5))))))), fun ds QD h => ?_⟩)
  · obtain ⟨g, row, rfl, _⟩ := h; rfl
  · obtain ⟨g, row, rfl, ok, hrow, hl, h⟩ := h
    repeat (first | refine ⟨_, rfl, ?_⟩ | refine ⟨_, _, rfl, rfl, ?_⟩ | refine ⟨_, _, _, .inr rfl, rfl, rfl, ?_⟩ | refine ⟨_, _, _, .inl rfl, rfl, rfl, ?_⟩ | refine ⟨_, .inr rfl, ?_⟩ | refine ⟨_, .inl rfl, ?_⟩ | refine ⟨(by intro s z; cases z), ?_⟩ | refine ⟨Nat.le_of_ble_eq_true rfl, ?_⟩ | refine ⟨rfl, ?_⟩ | refine iteT ?_ | refine iteF ?_ | refine ⟨_, _, rfl, ?_⟩ | refine ⟨_, _, _, rfl, ?_⟩)
    refine for_ind (enc := eN) (fun i ρ => ∃ c2, ρ = [.dat (eGar g), .dat (eRow row), c2, .dat (eWeb g.1), .dat (eBook g.2), .own ((kseq g.2 g.1 (row.take i)).map eN), .dat (eWeb (webAt g.2 g.1 (row.take i)))]) row 0 _ ⟨_, rfl⟩ (fun i x ρ hi hI K' hK => ?_) (fun ρ hI => ?_)
    · obtain ⟨c2, rfl⟩ := hI
      rw [Nat.zero_add] at hK ⊢
      obtain ⟨rest, hrest⟩ := take_pre hi
      have hx : x < (webAt g.2 g.1 (row.take i)).2.length := rowIn_at g.2 g.1 (row.take i) x rest (by rw [← hrest]; exact hrow)
      have hpre : RowIn g.2 g.1 (row.take i) := rowIn_pre g.2 g.1 _ (x :: rest) (by rw [← hrest]; exact hrow)
      obtain ⟨wok, wbel⟩ := webAt_ok ok _ hpre
      have hc := wbel _ (tieG_mem hx)
      repeat (first | refine ⟨_, rfl, ?_⟩ | refine ⟨_, _, rfl, rfl, ?_⟩ | refine ⟨_, _, _, .inr rfl, rfl, rfl, ?_⟩ | refine ⟨_, _, _, .inl rfl, rfl, rfl, ?_⟩ | refine ⟨_, .inr rfl, ?_⟩ | refine ⟨_, .inl rfl, ?_⟩ | refine ⟨(by intro s z; cases z), ?_⟩ | refine ⟨Nat.le_of_ble_eq_true rfl, ?_⟩ | refine ⟨rfl, ?_⟩ | refine iteT ?_ | refine iteF ?_ | refine ⟨_, _, rfl, ?_⟩ | refine ⟨_, _, _, rfl, ?_⟩)
      refine ⟨by omega, by simp; omega, ?_⟩
      repeat (first | refine ⟨_, rfl, ?_⟩ | refine ⟨_, _, rfl, rfl, ?_⟩ | refine ⟨_, _, _, .inr rfl, rfl, rfl, ?_⟩ | refine ⟨_, _, _, .inl rfl, rfl, rfl, ?_⟩ | refine ⟨_, .inr rfl, ?_⟩ | refine ⟨_, .inl rfl, ?_⟩ | refine ⟨(by intro s z; cases z), ?_⟩ | refine ⟨Nat.le_of_ble_eq_true rfl, ?_⟩ | refine ⟨rfl, ?_⟩ | refine iteT ?_ | refine iteF ?_ | refine ⟨_, _, rfl, ?_⟩ | refine ⟨_, _, _, rfl, ?_⟩)
      refine ⟨by simp [kseq_len]; omega, ?_⟩
      repeat (first | refine ⟨_, rfl, ?_⟩ | refine ⟨_, _, rfl, rfl, ?_⟩ | refine ⟨_, _, _, .inr rfl, rfl, rfl, ?_⟩ | refine ⟨_, _, _, .inl rfl, rfl, rfl, ?_⟩ | refine ⟨_, .inr rfl, ?_⟩ | refine ⟨_, .inl rfl, ?_⟩ | refine ⟨(by intro s z; cases z), ?_⟩ | refine ⟨Nat.le_of_ble_eq_true rfl, ?_⟩ | refine ⟨rfl, ?_⟩ | refine iteT ?_ | refine iteF ?_ | refine ⟨_, _, rfl, ?_⟩ | refine ⟨_, _, _, rfl, ?_⟩)
      refine ix_ties hx ?_
      repeat (first | refine ⟨_, rfl, ?_⟩ | refine ⟨_, _, rfl, rfl, ?_⟩ | refine ⟨_, _, _, .inr rfl, rfl, rfl, ?_⟩ | refine ⟨_, _, _, .inl rfl, rfl, rfl, ?_⟩ | refine ⟨_, .inr rfl, ?_⟩ | refine ⟨_, .inl rfl, ?_⟩ | refine ⟨(by intro s z; cases z), ?_⟩ | refine ⟨Nat.le_of_ble_eq_true rfl, ?_⟩ | refine ⟨rfl, ?_⟩ | refine iteT ?_ | refine iteF ?_ | refine ⟨_, _, rfl, ?_⟩ | refine ⟨_, _, _, rfl, ?_⟩)
      refine ⟨_, _, rfl, atI_snoc, ?_⟩
      refine ix_book hc ?_
      repeat (first | refine ⟨_, rfl, ?_⟩ | refine ⟨_, _, rfl, rfl, ?_⟩ | refine ⟨_, _, _, .inr rfl, rfl, rfl, ?_⟩ | refine ⟨_, _, _, .inl rfl, rfl, rfl, ?_⟩ | refine ⟨_, .inr rfl, ?_⟩ | refine ⟨_, .inl rfl, ?_⟩ | refine ⟨(by intro s z; cases z), ?_⟩ | refine ⟨Nat.le_of_ble_eq_true rfl, ?_⟩ | refine ⟨rfl, ?_⟩ | refine iteT ?_ | refine iteF ?_ | refine ⟨_, _, rfl, ?_⟩ | refine ⟨_, _, _, rfl, ?_⟩)
      refine byEnv ?_ (hK _ ⟨.dat (eN x), rfl⟩)
      rw [take_succ hi, kseq_snoc, webAt_snoc, List.map_append]
      rfl
    · obtain ⟨c2, rfl⟩ := hI
      rw [Nat.zero_add, List.take_length]
      repeat (first | refine ⟨_, rfl, ?_⟩ | refine ⟨_, _, rfl, rfl, ?_⟩ | refine ⟨_, _, _, .inr rfl, rfl, rfl, ?_⟩ | refine ⟨_, _, _, .inl rfl, rfl, rfl, ?_⟩ | refine ⟨_, .inr rfl, ?_⟩ | refine ⟨_, .inl rfl, ?_⟩ | refine ⟨(by intro s z; cases z), ?_⟩ | refine ⟨Nat.le_of_ble_eq_true rfl, ?_⟩ | refine ⟨rfl, ?_⟩ | refine iteT ?_ | refine iteF ?_ | refine ⟨_, _, rfl, ?_⟩ | refine ⟨_, _, _, rfl, ?_⟩)
      exact h
def phi_is_row_value : Phi := fun ds Q => ∃ g row, ds = [eGar g, eRow row] ∧ GarOk g ∧ row ≠ [] ∧ RowIn g.2 g.1 row ∧ row.length ≤ 1000 ∧ Q (.bool true)
abbrev s_is_row_value : Stmt := topS 39
theorem sc_is_row_value : FnScope ["garden", "thing"] ["garden", "thing"] (defScope s_is_row_value) := ⟨rfl, rfl, rfl, by decide +kernel, rfl, by decide +kernel, by decide +kernel⟩
theorem ok_is_row_value {f : Addr} {fd : FuncData} (F : Fun K "is_row_value" "is_row_value" s_is_row_value f fd) (N : Nms mg) (h_kinds_along : Has P w K mg base "kinds_along" 3 ["garden", "thing"] (sp3 ⟨T, none⟩ phi_kinds_along)) : FnOk P w K mg base CX0 4 f fd ["garden", "thing"] (sp3 ⟨T, none⟩ phi_is_row_value) := by
  refine fn3 F sc_is_row_value (fun ds QD h => ?_) (fun cdv A outer s H E hr => ⟨_, _, (by have hu := hr.units; exact qss_one (qs_ret (q_and (q_isi (T := "tuple") (by decide) rfl N.isinstance bt_isi rfl N.tuple bt_tuple (q_var 1)) (q_and (q_cmp (op_neDK hu) lift_ne (by decide) (by decide) (q_var 1) (q_tup qa_nil)) (q_one (q_cmp op_notN lift_notN (by decide) (by decide) (q_call h_kinds_along (hr.mono (by decide)) (qa_cons (q_var 0) (qa_cons (q_var 1) qa_nil))) q_non)))))), fun ds QD h => ?_⟩)
  · obtain ⟨g, row, rfl, _⟩ := h; rfl
  · obtain ⟨g, row, rfl, ok, ne, hrow, hl, h⟩ := h
    repeat (first | refine ⟨_, rfl, ?_⟩ | refine ⟨_, _, rfl, rfl, ?_⟩ | refine ⟨_, _, _, .inr rfl, rfl, rfl, ?_⟩ | refine ⟨_, _, _, .inl rfl, rfl, rfl, ?_⟩ | refine ⟨_, .inr rfl, ?_⟩ | refine ⟨_, .inl rfl, ?_⟩ | refine ⟨(by intro s z; cases z), ?_⟩ | refine ⟨Nat.le_of_ble_eq_true rfl, ?_⟩ | refine ⟨rfl, ?_⟩ | refine iteT ?_ | refine iteF ?_ | refine ⟨_, _, rfl, ?_⟩ | refine ⟨_, _, _, rfl, ?_⟩)
    refine ⟨enc_row.shaped row, enc_row.shaped [], ?_⟩
    have e0 : PyData.eqv (eRow row) (.tuple []) = false := by
      have := enc_row.eqv row []
      rw [show eRow [] = .tuple [] from rfl] at this
      rw [this]
      simp [ne]
    rw [e0]
    repeat (first | refine ⟨_, rfl, ?_⟩ | refine ⟨_, _, rfl, rfl, ?_⟩ | refine ⟨_, _, _, .inr rfl, rfl, rfl, ?_⟩ | refine ⟨_, _, _, .inl rfl, rfl, rfl, ?_⟩ | refine ⟨_, .inr rfl, ?_⟩ | refine ⟨_, .inl rfl, ?_⟩ | refine ⟨(by intro s z; cases z), ?_⟩ | refine ⟨Nat.le_of_ble_eq_true rfl, ?_⟩ | refine ⟨rfl, ?_⟩ | refine iteT ?_ | refine iteF ?_ | refine ⟨_, _, rfl, ?_⟩ | refine ⟨_, _, _, rfl, ?_⟩)
    refine ⟨ok, hrow, hl, ?_⟩
    repeat (first | refine ⟨_, rfl, ?_⟩ | refine ⟨_, _, rfl, rfl, ?_⟩ | refine ⟨_, _, _, .inr rfl, rfl, rfl, ?_⟩ | refine ⟨_, _, _, .inl rfl, rfl, rfl, ?_⟩ | refine ⟨_, .inr rfl, ?_⟩ | refine ⟨_, .inl rfl, ?_⟩ | refine ⟨(by intro s z; cases z), ?_⟩ | refine ⟨Nat.le_of_ble_eq_true rfl, ?_⟩ | refine ⟨rfl, ?_⟩ | refine iteT ?_ | refine iteF ?_ | refine ⟨_, _, rfl, ?_⟩ | refine ⟨_, _, _, rfl, ?_⟩)
    exact h
def phi_kind_of : Phi := fun ds Q => ∃ g row, ds = [eGar g, eRow row] ∧ GarOk g ∧ row ≠ [] ∧ RowIn g.2 g.1 row ∧ row.length ≤ 1000 ∧ Q (eN (kindOf g row))
abbrev s_kind_of : Stmt := topS 40
theorem sc_kind_of : FnScope ["garden", "row"] ["garden", "row"] (defScope s_kind_of) := ⟨rfl, rfl, rfl, by decide +kernel, rfl, by decide +kernel, by decide +kernel⟩
theorem ok_kind_of {f : Addr} {fd : FuncData} (F : Fun K "kind_of" "kind_of" s_kind_of f fd) (N : Nms mg) (h_kinds_along : Has P w K mg base "kinds_along" 3 ["garden", "thing"] (sp3 ⟨T, none⟩ phi_kinds_along)) : FnOk P w K mg base CX0 4 f fd ["garden", "row"] (sp3 ⟨T, none⟩ phi_kind_of) := by
  refine fn3 F sc_kind_of (fun ds QD h => ?_) (fun cdv A outer s H E hr => ⟨_, _, (by exact qss_one (qs_ret (q_ixK (q_call h_kinds_along (hr.mono (by decide)) (qa_cons (q_var 0) (qa_cons (q_var 1) qa_nil))) (q_neg q_int)))), fun ds QD h => ?_⟩)
  · obtain ⟨g, row, rfl, _⟩ := h; rfl
  · obtain ⟨g, row, rfl, ok, ne, hrow, hl, h⟩ := h
    repeat (first | refine ⟨_, rfl, ?_⟩ | refine ⟨_, _, rfl, rfl, ?_⟩ | refine ⟨_, _, _, .inr rfl, rfl, rfl, ?_⟩ | refine ⟨_, _, _, .inl rfl, rfl, rfl, ?_⟩ | refine ⟨_, .inr rfl, ?_⟩ | refine ⟨_, .inl rfl, ?_⟩ | refine ⟨(by intro s z; cases z), ?_⟩ | refine ⟨Nat.le_of_ble_eq_true rfl, ?_⟩ | refine ⟨rfl, ?_⟩ | refine iteT ?_ | refine iteF ?_ | refine ⟨_, _, rfl, ?_⟩ | refine ⟨_, _, _, rfl, ?_⟩)
    refine ⟨ok, hrow, hl, ?_⟩
    obtain ⟨r, x, rfl⟩ := row_snoc ne
    rw [kindOf_snoc] at h
    rw [kseq_snoc, List.map_append]
    repeat (first | refine ⟨_, rfl, ?_⟩ | refine ⟨_, _, rfl, rfl, ?_⟩ | refine ⟨_, _, _, .inr rfl, rfl, rfl, ?_⟩ | refine ⟨_, _, _, .inl rfl, rfl, rfl, ?_⟩ | refine ⟨_, .inr rfl, ?_⟩ | refine ⟨_, .inl rfl, ?_⟩ | refine ⟨(by intro s z; cases z), ?_⟩ | refine ⟨Nat.le_of_ble_eq_true rfl, ?_⟩ | refine ⟨rfl, ?_⟩ | refine iteT ?_ | refine iteF ?_ | refine ⟨_, _, rfl, ?_⟩ | refine ⟨_, _, _, rfl, ?_⟩)
    exact ⟨_, _, _, .inl rfl, rfl, atI_snoc, h⟩
def phi_ends_of : Phi := fun ds Q => ∃ g row, ds = [eGar g, eRow row] ∧ GarOk g ∧ row ≠ [] ∧ RowIn g.2 g.1 row ∧ row.length ≤ 1000 ∧ Q (.tuple [eAdr (endsI g row (row.length - 1)).1, eAdr (endsI g row (row.length - 1)).2.1])
abbrev s_ends_of : Stmt := topS 41
theorem sc_ends_of : FnScope ["garden", "row", "ends", "at", "start", "book", "tail", "head", "kind", "one", "other", "following", "place"] ["garden", "row"] (defScope s_ends_of) := ⟨rfl, rfl, rfl, by decide +kernel, rfl, by decide +kernel, by decide +kernel⟩
theorem ok_ends_of {f : Addr} {fd : FuncData} (F : Fun K "ends_of" "ends_of" s_ends_of f fd) (N : Nms mg)  : FnOk P w K mg base CX0 1 f fd ["garden", "row"] (sp3 ⟨T, none⟩ phi_ends_of) := by
  refine fn3 F sc_ends_of (fun ds QD h => ?_) (fun cdv A outer s H E hr => ⟨_, _, (by exact qss_cons (qs_asg (q_var 0) (qg_tupK (n := 2) rfl (qgs_cons (qg_name (i := 4) sc_ends_of.nd) (qgs_cons (qg_name (i := 5) sc_ends_of.nd) qgs_nil)))) (qss_cons (qs_asg (q_ixK (q_ixK (q_var 4) q_int) (q_ixK (q_var 1) q_int)) (qg_tupK (n := 3) rfl (qgs_cons (qg_name (i := 6) sc_ends_of.nd) (qgs_cons (qg_name (i := 7) sc_ends_of.nd) (qgs_cons (qg_name (i := 8) sc_ends_of.nd) qgs_nil))))) (qss_cons (qs_set (i := 2) sc_ends_of.nd (q_tup (qa_cons (q_tup (qa_cons (q_tup qa_nil) (qa_cons (q_var 6) qa_nil))) (qa_cons (q_tup (qa_cons (q_tup qa_nil) (qa_cons (q_var 7) qa_nil))) qa_nil)))) (qss_cons (qs_for PassesOwn.never rfl (qi_rng2 rfl N.range q_int (q_cb call_lenK l_len rfl N.len PySem.boot_len (qa_cons (q_var 1) qa_nil))) (qg_name (i := 3) sc_ends_of.nd) (qss_cons (qs_asg (q_ixK (q_ixK (q_ixK (q_var 5) (q_var 8)) q_int) (q_ixK (q_var 1) (q_var 3))) (qg_tupK (n := 3) rfl (qgs_cons (qg_name (i := 9) sc_ends_of.nd) (qgs_cons (qg_name (i := 10) sc_ends_of.nd) (qgs_cons (qg_name (i := 11) sc_ends_of.nd) qgs_nil))))) (qss_cons (qs_set (i := 2) sc_ends_of.nd (q_cty call_tuple_of l_tuple rfl N.tuple bt_tuple (qa_cons (PDL.pde (ql_lc rfl sc_ends_of.nd (own := [("place", 12)]) (qi_tupK (q_tup (qa_cons (q_var 9) (qa_cons (q_var 10) qa_nil)))) (blkOk_by (by rfl)) (fun _ _ _ _ _ => (qg_name (i := 12) sc_ends_of.nd)) (fun _ _ _ _ _ => qts_nil) (fun _ _ _ _ _ => (q_ifExp (qt_cmp op_lt l_lt (by decide) (by decide) (q_var 12) q_int) (q_ixK (q_var 2) (q_var 12)) (q_tup (qa_cons (q_slTK (q_var 1) qo_none (qo_some (q_var 3))) (qa_cons (q_var 12) qa_nil))))) (by decide) s)) qa_nil))) (qss_one (qs_set (i := 8) sc_ends_of.nd (q_var 11)))))) (qss_one (qs_ret (q_var 2))))))), fun ds QD h => ?_⟩)
  · obtain ⟨g, row, rfl, _⟩ := h; rfl
  · obtain ⟨g, row, rfl, ok, ne, hrow, hl, h⟩ := h
    obtain ⟨x0, rs, rfl⟩ : ∃ x0 rs, row = x0 :: rs := by
      cases row with
      | nil => exact absurd rfl ne
      | cons x r => exact ⟨x, r, rfl⟩
    have hx0 : x0 < g.1.2.length := hrow.1
    repeat (first | refine ⟨_, rfl, ?_⟩ | refine ⟨_, _, rfl, rfl, ?_⟩ | refine ⟨_, _, _, .inr rfl, rfl, rfl, ?_⟩ | refine ⟨_, _, _, .inl rfl, rfl, rfl, ?_⟩ | refine ⟨_, .inr rfl, ?_⟩ | refine ⟨_, .inl rfl, ?_⟩ | refine ⟨(by intro s z; cases z), ?_⟩ | refine ⟨Nat.le_of_ble_eq_true rfl, ?_⟩ | refine ⟨rfl, ?_⟩ | refine iteT ?_ | refine iteF ?_ | refine ⟨_, _, rfl, ?_⟩ | refine ⟨_, _, _, rfl, ?_⟩)
    refine ⟨_, _, _, .inr rfl, rfl, atI_map (i := 0) rfl, ?_⟩
    refine ix_ties hx0 ?_
    repeat (first | refine ⟨_, rfl, ?_⟩ | refine ⟨_, _, rfl, rfl, ?_⟩ | refine ⟨_, _, _, .inr rfl, rfl, rfl, ?_⟩ | refine ⟨_, _, _, .inl rfl, rfl, rfl, ?_⟩ | refine ⟨_, .inr rfl, ?_⟩ | refine ⟨_, .inl rfl, ?_⟩ | refine ⟨(by intro s z; cases z), ?_⟩ | refine ⟨Nat.le_of_ble_eq_true rfl, ?_⟩ | refine ⟨rfl, ?_⟩ | refine iteT ?_ | refine iteF ?_ | refine ⟨_, _, rfl, ?_⟩ | refine ⟨_, _, _, rfl, ?_⟩)
    refine ⟨⟨by omega, by omega, by simp only [List.length_map]; omega, by simp only [List.length_map]; omega⟩, ?_⟩
    have er : rgN 1 ((((List.map eN (x0 :: rs)).length : Nat) : Int) - 1).toNat = (List.range rs.length).map fun i => eN (1 + i) := by
      unfold rgN
      have : ((((List.map eN (x0 :: rs)).length : Nat) : Int) - 1).toNat = rs.length := by simp
      rw [this]
      refine List.map_congr_left fun i _ => ?_
      simp [eN]
    rw [er]
    refine for_ind (enc := fun i : Nat => eN (1 + i)) (fun i ρ => ∃ c3 c6 c7 c9 c10 c11 c12, ρ = [.dat (eGar g), .dat (eRow (x0 :: rs)), .dat (.tuple [eAdr (endsI g (x0 :: rs) i).1, eAdr (endsI g (x0 :: rs) i).2.1]), c3, .dat (eWeb g.1), .dat (eBook g.2), c6, c7, .dat (eN (endsI g (x0 :: rs) i).2.2), c9, c10, c11, c12]) (List.range rs.length) 0 _ ⟨_, _, _, _, _, _, _, rfl⟩ (fun i j ρ hi hI K' hK => ?_) (fun ρ hI => ?_)
    · obtain ⟨c3, c6, c7, c9, c10, c11, c12, rfl⟩ := hI
      rw [Nat.zero_add] at hK ⊢
      obtain ⟨hlt, rfl⟩ : i < rs.length ∧ j = i := by
        have h1 := (List.getElem?_eq_some_iff.mp hi).1
        rw [List.length_range] at h1
        rw [List.getElem?_range h1] at hi
        exact ⟨h1, (Option.some.inj hi).symm⟩
      obtain ⟨x, hx⟩ : ∃ x, (x0 :: rs)[j + 1]? = some x := ⟨_, List.getElem?_eq_getElem (by simp; omega)⟩
      obtain ⟨rest, hrest⟩ := take_pre hx
      have hpre : RowIn g.2 g.1 ((x0 :: rs).take (j + 1)) := rowIn_pre g.2 g.1 _ (x :: rest) (by rw [← hrest]; exact hrow)
      have hkx := endsI_kind (g := g) (row := x0 :: rs) (i := j) (by simp; omega)
      have hxr := rowIn_at g.2 g.1 ((x0 :: rs).take (j + 1)) x rest (by rw [← hrest]; exact hrow)
      have hne : (x0 :: rs).take (j + 1) ≠ [] := by simp
      rw [webAt_kind hne, ← hkx] at hxr
      have hc := kindOf_lt ok hne hpre
      rw [← hkx] at hc
      have wok := (ok.book.webs _ (kd_mem hc)).1
      have tok := wok.ties _ (tieG_mem hxr)
      repeat (first | refine ⟨_, rfl, ?_⟩ | refine ⟨_, _, rfl, rfl, ?_⟩ | refine ⟨_, _, _, .inr rfl, rfl, rfl, ?_⟩ | refine ⟨_, _, _, .inl rfl, rfl, rfl, ?_⟩ | refine ⟨_, .inr rfl, ?_⟩ | refine ⟨_, .inl rfl, ?_⟩ | refine ⟨(by intro s z; cases z), ?_⟩ | refine ⟨Nat.le_of_ble_eq_true rfl, ?_⟩ | refine ⟨rfl, ?_⟩ | refine iteT ?_ | refine iteF ?_ | refine ⟨_, _, rfl, ?_⟩ | refine ⟨_, _, _, rfl, ?_⟩)
      refine ix_book hc ?_
      repeat (first | refine ⟨_, rfl, ?_⟩ | refine ⟨_, _, rfl, rfl, ?_⟩ | refine ⟨_, _, _, .inr rfl, rfl, rfl, ?_⟩ | refine ⟨_, _, _, .inl rfl, rfl, rfl, ?_⟩ | refine ⟨_, .inr rfl, ?_⟩ | refine ⟨_, .inl rfl, ?_⟩ | refine ⟨(by intro s z; cases z), ?_⟩ | refine ⟨Nat.le_of_ble_eq_true rfl, ?_⟩ | refine ⟨rfl, ?_⟩ | refine iteT ?_ | refine iteF ?_ | refine ⟨_, _, rfl, ?_⟩ | refine ⟨_, _, _, rfl, ?_⟩)
      refine ⟨_, _, _, .inr rfl, rfl, atI_map (i := 1 + j) (by rw [Nat.add_comm]; exact hx), ?_⟩
      refine ix_ties hxr ?_
      repeat (first | refine ⟨_, rfl, ?_⟩ | refine ⟨_, _, rfl, rfl, ?_⟩ | refine ⟨_, _, _, .inr rfl, rfl, rfl, ?_⟩ | refine ⟨_, _, _, .inl rfl, rfl, rfl, ?_⟩ | refine ⟨_, .inr rfl, ?_⟩ | refine ⟨_, .inl rfl, ?_⟩ | refine ⟨(by intro s z; cases z), ?_⟩ | refine ⟨Nat.le_of_ble_eq_true rfl, ?_⟩ | refine ⟨rfl, ?_⟩ | refine iteT ?_ | refine iteF ?_ | refine ⟨_, _, rfl, ?_⟩ | refine ⟨_, _, _, rfl, ?_⟩)
      generalize hs : endsI g (x0 :: rs) j = st at *
      have hst : endsI g (x0 :: rs) (j + 1) = (pick st ((x0 :: rs).take (j + 1)) (tieG (kd g.2 st.2.2) x).1, pick st ((x0 :: rs).take (j + 1)) (tieG (kd g.2 st.2.2) x).2.1, (tieG (kd g.2 st.2.2) x).2.2) := by
        show endStep g.2 (x0 :: rs) (j + 1) (endsI g (x0 :: rs) j) = _
        rw [hs]
        unfold endStep
        rw [getD_of hx]
      have far : ∀ {y : Nat}, ¬ y < 2 → PyData.tuple [PyData.tuple (cutD (List.map eN (x0 :: rs)) none (some ((1 + j : Nat) : Int))), eN y] = eAdr (pick st ((x0 :: rs).take (j + 1)) y) := fun {y} h => by
        rw [cut_take, ← List.map_take, Nat.add_comm 1 j]
        unfold pick
        rw [if_neg (by omega), if_neg (by omega)]
        rfl
      have go : ∀ {A B : PyData}, A = eAdr (endsI g (x0 :: rs) (j + 1)).1 → B = eAdr (endsI g (x0 :: rs) (j + 1)).2.1 → K' [.dat (eGar g), .dat (eRow (x0 :: rs)), .dat (.tuple [A, B]), .dat (eN (1 + j)), .dat (eWeb g.1), .dat (eBook g.2), c6, c7, .dat (eN (tieG (kd g.2 st.2.2) x).2.2), .dat (eN (tieG (kd g.2 st.2.2) x).1), .dat (eN (tieG (kd g.2 st.2.2) x).2.1), .dat (eN (tieG (kd g.2 st.2.2) x).2.2), c12] := fun {A B} ha hb => by
        subst ha hb
        refine byEnv ?_ (hK _ ⟨.dat (eN (1 + j)), c6, c7, .dat (eN (tieG (kd g.2 st.2.2) x).1), .dat (eN (tieG (kd g.2 st.2.2) x).2.1), .dat (eN (tieG (kd g.2 st.2.2) x).2.2), c12, rfl⟩)
        rw [hst]
      by_cases y1 : (tieG (kd g.2 st.2.2) x).1 < 2
      · refine iteB (decide_eq_true (by omega)) ?_
        repeat (first | refine ⟨_, rfl, ?_⟩ | refine ⟨_, _, rfl, rfl, ?_⟩ | refine ⟨_, _, _, .inr rfl, rfl, rfl, ?_⟩ | refine ⟨_, _, _, .inl rfl, rfl, rfl, ?_⟩ | refine ⟨_, .inr rfl, ?_⟩ | refine ⟨_, .inl rfl, ?_⟩ | refine ⟨(by intro s z; cases z), ?_⟩ | refine ⟨Nat.le_of_ble_eq_true rfl, ?_⟩ | refine ⟨rfl, ?_⟩ | refine iteT ?_ | refine iteF ?_ | refine ⟨_, _, rfl, ?_⟩ | refine ⟨_, _, _, rfl, ?_⟩)
        refine ⟨_, _, _, .inr rfl, rfl, pick_at (r := (x0 :: rs).take (j + 1)) y1, ?_⟩
        repeat (first | refine ⟨_, rfl, ?_⟩ | refine ⟨_, _, rfl, rfl, ?_⟩ | refine ⟨_, _, _, .inr rfl, rfl, rfl, ?_⟩ | refine ⟨_, _, _, .inl rfl, rfl, rfl, ?_⟩ | refine ⟨_, .inr rfl, ?_⟩ | refine ⟨_, .inl rfl, ?_⟩ | refine ⟨(by intro s z; cases z), ?_⟩ | refine ⟨Nat.le_of_ble_eq_true rfl, ?_⟩ | refine ⟨rfl, ?_⟩ | refine iteT ?_ | refine iteF ?_ | refine ⟨_, _, rfl, ?_⟩ | refine ⟨_, _, _, rfl, ?_⟩)
        by_cases y2 : (tieG (kd g.2 st.2.2) x).2.1 < 2
        · refine iteB (decide_eq_true (by omega)) ?_
          repeat (first | refine ⟨_, rfl, ?_⟩ | refine ⟨_, _, rfl, rfl, ?_⟩ | refine ⟨_, _, _, .inr rfl, rfl, rfl, ?_⟩ | refine ⟨_, _, _, .inl rfl, rfl, rfl, ?_⟩ | refine ⟨_, .inr rfl, ?_⟩ | refine ⟨_, .inl rfl, ?_⟩ | refine ⟨(by intro s z; cases z), ?_⟩ | refine ⟨Nat.le_of_ble_eq_true rfl, ?_⟩ | refine ⟨rfl, ?_⟩ | refine iteT ?_ | refine iteF ?_ | refine ⟨_, _, rfl, ?_⟩ | refine ⟨_, _, _, rfl, ?_⟩)
          refine ⟨_, _, _, .inr rfl, rfl, pick_at (r := (x0 :: rs).take (j + 1)) y2, ?_⟩
          repeat (first | refine ⟨_, rfl, ?_⟩ | refine ⟨_, _, rfl, rfl, ?_⟩ | refine ⟨_, _, _, .inr rfl, rfl, rfl, ?_⟩ | refine ⟨_, _, _, .inl rfl, rfl, rfl, ?_⟩ | refine ⟨_, .inr rfl, ?_⟩ | refine ⟨_, .inl rfl, ?_⟩ | refine ⟨(by intro s z; cases z), ?_⟩ | refine ⟨Nat.le_of_ble_eq_true rfl, ?_⟩ | refine ⟨rfl, ?_⟩ | refine iteT ?_ | refine iteF ?_ | refine ⟨_, _, rfl, ?_⟩ | refine ⟨_, _, _, rfl, ?_⟩)
          exact go (by rw [hst]) (by rw [hst])
        · refine iteN (decide_eq_false (by omega)) ?_
          repeat (first | refine ⟨_, rfl, ?_⟩ | refine ⟨_, _, rfl, rfl, ?_⟩ | refine ⟨_, _, _, .inr rfl, rfl, rfl, ?_⟩ | refine ⟨_, _, _, .inl rfl, rfl, rfl, ?_⟩ | refine ⟨_, .inr rfl, ?_⟩ | refine ⟨_, .inl rfl, ?_⟩ | refine ⟨(by intro s z; cases z), ?_⟩ | refine ⟨Nat.le_of_ble_eq_true rfl, ?_⟩ | refine ⟨rfl, ?_⟩ | refine iteT ?_ | refine iteF ?_ | refine ⟨_, _, rfl, ?_⟩ | refine ⟨_, _, _, rfl, ?_⟩)
          exact go (by rw [hst]) (by rw [hst]; exact far y2)
      · refine iteN (decide_eq_false (by omega)) ?_
        repeat (first | refine ⟨_, rfl, ?_⟩ | refine ⟨_, _, rfl, rfl, ?_⟩ | refine ⟨_, _, _, .inr rfl, rfl, rfl, ?_⟩ | refine ⟨_, _, _, .inl rfl, rfl, rfl, ?_⟩ | refine ⟨_, .inr rfl, ?_⟩ | refine ⟨_, .inl rfl, ?_⟩ | refine ⟨(by intro s z; cases z), ?_⟩ | refine ⟨Nat.le_of_ble_eq_true rfl, ?_⟩ | refine ⟨rfl, ?_⟩ | refine iteT ?_ | refine iteF ?_ | refine ⟨_, _, rfl, ?_⟩ | refine ⟨_, _, _, rfl, ?_⟩)
        by_cases y2 : (tieG (kd g.2 st.2.2) x).2.1 < 2
        · refine iteB (decide_eq_true (by omega)) ?_
          repeat (first | refine ⟨_, rfl, ?_⟩ | refine ⟨_, _, rfl, rfl, ?_⟩ | refine ⟨_, _, _, .inr rfl, rfl, rfl, ?_⟩ | refine ⟨_, _, _, .inl rfl, rfl, rfl, ?_⟩ | refine ⟨_, .inr rfl, ?_⟩ | refine ⟨_, .inl rfl, ?_⟩ | refine ⟨(by intro s z; cases z), ?_⟩ | refine ⟨Nat.le_of_ble_eq_true rfl, ?_⟩ | refine ⟨rfl, ?_⟩ | refine iteT ?_ | refine iteF ?_ | refine ⟨_, _, rfl, ?_⟩ | refine ⟨_, _, _, rfl, ?_⟩)
          refine ⟨_, _, _, .inr rfl, rfl, pick_at (r := (x0 :: rs).take (j + 1)) y2, ?_⟩
          repeat (first | refine ⟨_, rfl, ?_⟩ | refine ⟨_, _, rfl, rfl, ?_⟩ | refine ⟨_, _, _, .inr rfl, rfl, rfl, ?_⟩ | refine ⟨_, _, _, .inl rfl, rfl, rfl, ?_⟩ | refine ⟨_, .inr rfl, ?_⟩ | refine ⟨_, .inl rfl, ?_⟩ | refine ⟨(by intro s z; cases z), ?_⟩ | refine ⟨Nat.le_of_ble_eq_true rfl, ?_⟩ | refine ⟨rfl, ?_⟩ | refine iteT ?_ | refine iteF ?_ | refine ⟨_, _, rfl, ?_⟩ | refine ⟨_, _, _, rfl, ?_⟩)
          exact go (by rw [hst]; exact far y1) (by rw [hst])
        · refine iteN (decide_eq_false (by omega)) ?_
          repeat (first | refine ⟨_, rfl, ?_⟩ | refine ⟨_, _, rfl, rfl, ?_⟩ | refine ⟨_, _, _, .inr rfl, rfl, rfl, ?_⟩ | refine ⟨_, _, _, .inl rfl, rfl, rfl, ?_⟩ | refine ⟨_, .inr rfl, ?_⟩ | refine ⟨_, .inl rfl, ?_⟩ | refine ⟨(by intro s z; cases z), ?_⟩ | refine ⟨Nat.le_of_ble_eq_true rfl, ?_⟩ | refine ⟨rfl, ?_⟩ | refine iteT ?_ | refine iteF ?_ | refine ⟨_, _, rfl, ?_⟩ | refine ⟨_, _, _, rfl, ?_⟩)
          exact go (by rw [hst]; exact far y1) (by rw [hst]; exact far y2)
    · obtain ⟨c3, c6, c7, c9, c10, c11, c12, rfl⟩ := hI
      rw [Nat.zero_add, List.length_range]
      repeat (first | refine ⟨_, rfl, ?_⟩ | refine ⟨_, _, rfl, rfl, ?_⟩ | refine ⟨_, _, _, .inr rfl, rfl, rfl, ?_⟩ | refine ⟨_, _, _, .inl rfl, rfl, rfl, ?_⟩ | refine ⟨_, .inr rfl, ?_⟩ | refine ⟨_, .inl rfl, ?_⟩ | refine ⟨(by intro s z; cases z), ?_⟩ | refine ⟨Nat.le_of_ble_eq_true rfl, ?_⟩ | refine ⟨rfl, ?_⟩ | refine iteT ?_ | refine iteF ?_ | refine ⟨_, _, rfl, ?_⟩ | refine ⟨_, _, _, rfl, ?_⟩)
      exact h
end
end L3
namespace L3
open PySem L2
open PySem.Spec
theorem eq_none {row : Row} : PyData.eqv (eRow row) (.tuple []) = decide (row = []) := enc_row.eqv row []
section
variable {P : Program} {w : World} {K : PySem.W.Frag} {mg : Str → Option Value} {base : Heap} {T : List (Addr × Str)}
def phi_is_address_value : Phi := fun ds Q => ∃ g a, ds = [eGar g, eAdr a] ∧ GarOk g ∧ AdrOk g a ∧ Q (.bool true)
abbrev s_is_address_value : Stmt := topS 42
theorem sc_is_address_value : FnScope ["garden", "thing"] ["garden", "thing"] (defScope s_is_address_value) := ⟨rfl, rfl, rfl, by decide +kernel, rfl, by decide +kernel, by decide +kernel⟩
theorem ok_is_address_value {f : Addr} {fd : FuncData} (F : Fun K "is_address_value" "is_address_value" s_is_address_value f fd) (N : Nms mg) (h_is_between : Has P w K mg base "is_between" 2 ["thing", "least", "most"] (sp3 ⟨T, none⟩ phi_is_between)) (h_is_row_value : Has P w K mg base "is_row_value" 4 ["garden", "thing"] (sp3 ⟨T, none⟩ phi_is_row_value)) (h_kind_of : Has P w K mg base "kind_of" 4 ["garden", "row"] (sp3 ⟨T, none⟩ phi_kind_of)) : FnOk P w K mg base CX0 5 f fd ["garden", "thing"] (sp3 ⟨T, none⟩ phi_is_address_value) := by
  refine fn3 F sc_is_address_value (fun ds QD h => ?_) (fun cdv A outer s H E hr => ⟨_, _, (by have hu := hr.units; exact qss_cons (qs_if (PDW.pdt (qw_or (qt_not (qt_val (q_isi (T := "tuple") (by decide) rfl N.isinstance bt_isi rfl N.tuple bt_tuple (q_var 1)))) (qw_or (qt_cmp op_ne l_neI (by decide) (by decide) (q_cb call_lenK l_len rfl N.len PySem.boot_len (qa_cons (q_var 1) qa_nil)) q_int) (qw_or1 (qt_not (qt_val (q_isi (T := "tuple") (by decide) rfl N.isinstance bt_isi rfl N.tuple bt_tuple (q_ixK (q_var 1) q_int)))))))) (qss_one (qs_ret q_bl)) (qss_nil)) (qss_cons (qs_if (qt_cmp (op_eqDK hu) lift_eq (by decide) (by decide) (q_ixK (q_var 1) q_int) (q_tup qa_nil)) (qss_one (qs_ret (q_call h_is_between (hr.mono (by decide)) (qa_cons (q_ixK (q_var 1) q_int) (qa_cons q_int (qa_cons (q_sub (q_ixK (q_ixK (q_var 0) q_int) q_int) q_int) qa_nil)))))) (qss_nil)) (qss_cons (qs_if (qt_not (qt_val (q_call h_is_row_value (hr.mono (by decide)) (qa_cons (q_var 0) (qa_cons (q_ixK (q_var 1) q_int) qa_nil))))) (qss_one (qs_ret q_bl)) (qss_nil)) (qss_one (qs_ret (q_call h_is_between (hr.mono (by decide)) (qa_cons (q_ixK (q_var 1) q_int) (qa_cons q_int (qa_cons (q_sub (q_ixK (q_ixK (q_ixK (q_var 0) q_int) (q_call h_kind_of (hr.mono (by decide)) (qa_cons (q_var 0) (qa_cons (q_ixK (q_var 1) q_int) qa_nil)))) q_int) q_int) qa_nil))))))))), fun ds QD h => ?_⟩)
  · obtain ⟨g, a, rfl, _⟩ := h; rfl
  · obtain ⟨g, a, rfl, ok, aok, h⟩ := h
    repeat (first | refine ⟨_, rfl, ?_⟩ | refine ⟨_, _, rfl, rfl, ?_⟩ | refine ⟨_, _, _, .inr rfl, rfl, rfl, ?_⟩ | refine ⟨_, _, _, .inl rfl, rfl, rfl, ?_⟩ | refine ⟨_, .inr rfl, ?_⟩ | refine ⟨_, .inl rfl, ?_⟩ | refine ⟨(by intro s z; cases z), ?_⟩ | refine ⟨Nat.le_of_ble_eq_true rfl, ?_⟩ | refine ⟨rfl, ?_⟩ | refine iteT ?_ | refine iteF ?_ | refine ⟨_, _, rfl, ?_⟩ | refine ⟨_, _, _, rfl, ?_⟩)
    refine ⟨enc_row.shaped a.1, enc_row.shaped [], ?_⟩
    rw [eq_none]
    rcases aok with ⟨h1, h2⟩ | ⟨h1, h2, h3, h4, h5⟩
    · rw [decide_eq_true h1]
      repeat (first | refine ⟨_, rfl, ?_⟩ | refine ⟨_, _, rfl, rfl, ?_⟩ | refine ⟨_, _, _, .inr rfl, rfl, rfl, ?_⟩ | refine ⟨_, _, _, .inl rfl, rfl, rfl, ?_⟩ | refine ⟨_, .inr rfl, ?_⟩ | refine ⟨_, .inl rfl, ?_⟩ | refine ⟨(by intro s z; cases z), ?_⟩ | refine ⟨Nat.le_of_ble_eq_true rfl, ?_⟩ | refine ⟨rfl, ?_⟩ | refine iteT ?_ | refine iteF ?_ | refine ⟨_, _, rfl, ?_⟩ | refine ⟨_, _, _, rfl, ?_⟩)
      refine ⟨by omega, by omega, ?_⟩
      repeat (first | refine ⟨_, rfl, ?_⟩ | refine ⟨_, _, rfl, rfl, ?_⟩ | refine ⟨_, _, _, .inr rfl, rfl, rfl, ?_⟩ | refine ⟨_, _, _, .inl rfl, rfl, rfl, ?_⟩ | refine ⟨_, .inr rfl, ?_⟩ | refine ⟨_, .inl rfl, ?_⟩ | refine ⟨(by intro s z; cases z), ?_⟩ | refine ⟨Nat.le_of_ble_eq_true rfl, ?_⟩ | refine ⟨rfl, ?_⟩ | refine iteT ?_ | refine iteF ?_ | refine ⟨_, _, rfl, ?_⟩ | refine ⟨_, _, _, rfl, ?_⟩)
      exact h
    · rw [decide_eq_false h1]
      repeat (first | refine ⟨_, rfl, ?_⟩ | refine ⟨_, _, rfl, rfl, ?_⟩ | refine ⟨_, _, _, .inr rfl, rfl, rfl, ?_⟩ | refine ⟨_, _, _, .inl rfl, rfl, rfl, ?_⟩ | refine ⟨_, .inr rfl, ?_⟩ | refine ⟨_, .inl rfl, ?_⟩ | refine ⟨(by intro s z; cases z), ?_⟩ | refine ⟨Nat.le_of_ble_eq_true rfl, ?_⟩ | refine ⟨rfl, ?_⟩ | refine iteT ?_ | refine iteF ?_ | refine ⟨_, _, rfl, ?_⟩ | refine ⟨_, _, _, rfl, ?_⟩)
      refine ⟨ok, h1, h2, h3, ?_⟩
      repeat (first | refine ⟨_, rfl, ?_⟩ | refine ⟨_, _, rfl, rfl, ?_⟩ | refine ⟨_, _, _, .inr rfl, rfl, rfl, ?_⟩ | refine ⟨_, _, _, .inl rfl, rfl, rfl, ?_⟩ | refine ⟨_, .inr rfl, ?_⟩ | refine ⟨_, .inl rfl, ?_⟩ | refine ⟨(by intro s z; cases z), ?_⟩ | refine ⟨Nat.le_of_ble_eq_true rfl, ?_⟩ | refine ⟨rfl, ?_⟩ | refine iteT ?_ | refine iteF ?_ | refine ⟨_, _, rfl, ?_⟩ | refine ⟨_, _, _, rfl, ?_⟩)
      refine ⟨ok, h1, h2, h3, ?_⟩
      refine ix_book (kindOf_lt ok h1 h2) ?_
      repeat (first | refine ⟨_, rfl, ?_⟩ | refine ⟨_, _, rfl, rfl, ?_⟩ | refine ⟨_, _, _, .inr rfl, rfl, rfl, ?_⟩ | refine ⟨_, _, _, .inl rfl, rfl, rfl, ?_⟩ | refine ⟨_, .inr rfl, ?_⟩ | refine ⟨_, .inl rfl, ?_⟩ | refine ⟨(by intro s z; cases z), ?_⟩ | refine ⟨Nat.le_of_ble_eq_true rfl, ?_⟩ | refine ⟨rfl, ?_⟩ | refine iteT ?_ | refine iteF ?_ | refine ⟨_, _, rfl, ?_⟩ | refine ⟨_, _, _, rfl, ?_⟩)
      refine ⟨by omega, by omega, ?_⟩
      repeat (first | refine ⟨_, rfl, ?_⟩ | refine ⟨_, _, rfl, rfl, ?_⟩ | refine ⟨_, _, _, .inr rfl, rfl, rfl, ?_⟩ | refine ⟨_, _, _, .inl rfl, rfl, rfl, ?_⟩ | refine ⟨_, .inr rfl, ?_⟩ | refine ⟨_, .inl rfl, ?_⟩ | refine ⟨(by intro s z; cases z), ?_⟩ | refine ⟨Nat.le_of_ble_eq_true rfl, ?_⟩ | refine ⟨rfl, ?_⟩ | refine iteT ?_ | refine iteF ?_ | refine ⟨_, _, rfl, ?_⟩ | refine ⟨_, _, _, rfl, ?_⟩)
      exact h
def phi_is_address_after : Phi := fun ds Q => ∃ g n a, ds = [eGar g, eN n, eAdr a] ∧ GarOk g ∧ AdrOk g a ∧ a.1.length ≤ n ∧ Q (.bool true)
abbrev s_is_address_after : Stmt := topS 43
theorem sc_is_address_after : FnScope ["garden", "n", "thing"] ["garden", "n", "thing"] (defScope s_is_address_after) := ⟨rfl, rfl, rfl, by decide +kernel, rfl, by decide +kernel, by decide +kernel⟩
theorem ok_is_address_after {f : Addr} {fd : FuncData} (F : Fun K "is_address_after" "is_address_after" s_is_address_after f fd) (N : Nms mg) (h_is_address_value : Has P w K mg base "is_address_value" 5 ["garden", "thing"] (sp3 ⟨T, none⟩ phi_is_address_value)) : FnOk P w K mg base CX0 6 f fd ["garden", "n", "thing"] (sp3 ⟨T, none⟩ phi_is_address_after) := by
  refine fn3 F sc_is_address_after (fun ds QD h => ?_) (fun cdv A outer s H E hr => ⟨_, _, (by exact qss_one (qs_ret (q_and (q_call h_is_address_value (hr.mono (by decide)) (qa_cons (q_var 0) (qa_cons (q_var 2) qa_nil))) (q_one (q_cmp op_le l_le (by decide) (by decide) (q_cb call_lenK l_len rfl N.len PySem.boot_len (qa_cons (q_ixK (q_var 2) q_int) qa_nil)) (q_var 1)))))), fun ds QD h => ?_⟩)
  · obtain ⟨g, n, a, rfl, _⟩ := h; rfl
  · obtain ⟨g, n, a, rfl, ok, aok, hn, h⟩ := h
    repeat (first | refine ⟨_, rfl, ?_⟩ | refine ⟨_, _, rfl, rfl, ?_⟩ | refine ⟨_, _, _, .inr rfl, rfl, rfl, ?_⟩ | refine ⟨_, _, _, .inl rfl, rfl, rfl, ?_⟩ | refine ⟨_, .inr rfl, ?_⟩ | refine ⟨_, .inl rfl, ?_⟩ | refine ⟨(by intro s z; cases z), ?_⟩ | refine ⟨Nat.le_of_ble_eq_true rfl, ?_⟩ | refine ⟨rfl, ?_⟩ | refine iteT ?_ | refine iteF ?_ | refine ⟨_, _, rfl, ?_⟩ | refine ⟨_, _, _, rfl, ?_⟩)
    refine ⟨ok, aok, ?_⟩
    repeat (first | refine ⟨_, rfl, ?_⟩ | refine ⟨_, _, rfl, rfl, ?_⟩ | refine ⟨_, _, _, .inr rfl, rfl, rfl, ?_⟩ | refine ⟨_, _, _, .inl rfl, rfl, rfl, ?_⟩ | refine ⟨_, .inr rfl, ?_⟩ | refine ⟨_, .inl rfl, ?_⟩ | refine ⟨(by intro s z; cases z), ?_⟩ | refine ⟨Nat.le_of_ble_eq_true rfl, ?_⟩ | refine ⟨rfl, ?_⟩ | refine iteT ?_ | refine iteF ?_ | refine ⟨_, _, rfl, ?_⟩ | refine ⟨_, _, _, rfl, ?_⟩)
    exact byEq (Q := QD) h (by simp [hn])
def phi_web_around : Phi := fun ds Q => ∃ g row, ds = [eGar g, eRow row] ∧ GarOk g ∧ RowIn g.2 g.1 row ∧ row.length ≤ 1000 ∧ Q (eWeb (around g row))
abbrev s_web_around : Stmt := topS 44
theorem sc_web_around : FnScope ["garden", "row"] ["garden", "row"] (defScope s_web_around) := ⟨rfl, rfl, rfl, by decide +kernel, rfl, by decide +kernel, by decide +kernel⟩
theorem ok_web_around {f : Addr} {fd : FuncData} (F : Fun K "web_around" "web_around" s_web_around f fd) (N : Nms mg) (h_kind_of : Has P w K mg base "kind_of" 4 ["garden", "row"] (sp3 ⟨T, none⟩ phi_kind_of)) : FnOk P w K mg base CX0 5 f fd ["garden", "row"] (sp3 ⟨T, none⟩ phi_web_around) := by
  refine fn3 F sc_web_around (fun ds QD h => ?_) (fun cdv A outer s H E hr => ⟨_, _, (by have hu := hr.units; exact qss_one (qs_ret (q_ifExp (qt_cmp (op_eqDK hu) lift_eq (by decide) (by decide) (q_var 1) (q_tup qa_nil)) (q_ixK (q_var 0) q_int) (q_ixK (q_ixK (q_var 0) q_int) (q_call h_kind_of (hr.mono (by decide)) (qa_cons (q_var 0) (qa_cons (q_var 1) qa_nil))))))), fun ds QD h => ?_⟩)
  · obtain ⟨g, row, rfl, _⟩ := h; rfl
  · obtain ⟨g, row, rfl, ok, hrow, hl, h⟩ := h
    repeat (first | refine ⟨_, rfl, ?_⟩ | refine ⟨_, _, rfl, rfl, ?_⟩ | refine ⟨_, _, _, .inr rfl, rfl, rfl, ?_⟩ | refine ⟨_, _, _, .inl rfl, rfl, rfl, ?_⟩ | refine ⟨_, .inr rfl, ?_⟩ | refine ⟨_, .inl rfl, ?_⟩ | refine ⟨(by intro s z; cases z), ?_⟩ | refine ⟨Nat.le_of_ble_eq_true rfl, ?_⟩ | refine ⟨rfl, ?_⟩ | refine iteT ?_ | refine iteF ?_ | refine ⟨_, _, rfl, ?_⟩ | refine ⟨_, _, _, rfl, ?_⟩)
    refine ⟨enc_row.shaped row, enc_row.shaped [], ?_⟩
    rw [eq_none]
    unfold around at h
    by_cases e : row = []
    · rw [if_pos e] at h
      rw [decide_eq_true e]
      repeat (first | refine ⟨_, rfl, ?_⟩ | refine ⟨_, _, rfl, rfl, ?_⟩ | refine ⟨_, _, _, .inr rfl, rfl, rfl, ?_⟩ | refine ⟨_, _, _, .inl rfl, rfl, rfl, ?_⟩ | refine ⟨_, .inr rfl, ?_⟩ | refine ⟨_, .inl rfl, ?_⟩ | refine ⟨(by intro s z; cases z), ?_⟩ | refine ⟨Nat.le_of_ble_eq_true rfl, ?_⟩ | refine ⟨rfl, ?_⟩ | refine iteT ?_ | refine iteF ?_ | refine ⟨_, _, rfl, ?_⟩ | refine ⟨_, _, _, rfl, ?_⟩)
      exact h
    · rw [if_neg e] at h
      rw [decide_eq_false e]
      repeat (first | refine ⟨_, rfl, ?_⟩ | refine ⟨_, _, rfl, rfl, ?_⟩ | refine ⟨_, _, _, .inr rfl, rfl, rfl, ?_⟩ | refine ⟨_, _, _, .inl rfl, rfl, rfl, ?_⟩ | refine ⟨_, .inr rfl, ?_⟩ | refine ⟨_, .inl rfl, ?_⟩ | refine ⟨(by intro s z; cases z), ?_⟩ | refine ⟨Nat.le_of_ble_eq_true rfl, ?_⟩ | refine ⟨rfl, ?_⟩ | refine iteT ?_ | refine iteF ?_ | refine ⟨_, _, rfl, ?_⟩ | refine ⟨_, _, _, rfl, ?_⟩)
      refine ⟨ok, e, hrow, hl, ?_⟩
      exact ix_book (kindOf_lt ok e hrow) h
def phi_need_row : Phi := fun ds Q => ∃ g row, ds = [eGar g, eRow row] ∧ GarOk g ∧ row ≠ [] ∧ RowIn g.2 g.1 row ∧ row.length ≤ 1000 ∧ Q .none
abbrev s_need_row : Stmt := topS 45
theorem sc_need_row : FnScope ["garden", "row"] ["garden", "row"] (defScope s_need_row) := ⟨rfl, rfl, rfl, by decide +kernel, rfl, by decide +kernel, by decide +kernel⟩
theorem ok_need_row {f : Addr} {fd : FuncData} (F : Fun K "need_row" "need_row" s_need_row f fd) (N : Nms mg) (h_need_garden : Has P w K mg base "need_garden" 8 ["garden"] (sp3 ⟨T, none⟩ phi_need_garden)) (h_is_row_value : Has P w K mg base "is_row_value" 4 ["garden", "thing"] (sp3 ⟨T, none⟩ phi_is_row_value)) : FnOk P w K mg base CX0 9 f fd ["garden", "row"] (sp3 ⟨T, none⟩ phi_need_row) := by
  refine fn3 F sc_need_row (fun ds QD h => ?_) (fun cdv A outer s H E hr => ⟨_, _, (by exact qss_cons (qs_expr (q_call h_need_garden (hr.mono (by decide)) (qa_cons (q_var 0) qa_nil))) (qss_one (qs_if (qt_not (qt_val (q_call h_is_row_value (hr.mono (by decide)) (qa_cons (q_var 0) (qa_cons (q_var 1) qa_nil))))) (qss_never) (qss_nil)))), fun ds QD h => ?_⟩)
  · obtain ⟨g, row, rfl, _⟩ := h; rfl
  · obtain ⟨g, row, rfl, ok, ne, hrow, hl, h⟩ := h
    repeat (first | refine ⟨_, rfl, ?_⟩ | refine ⟨_, _, rfl, rfl, ?_⟩ | refine ⟨_, _, _, .inr rfl, rfl, rfl, ?_⟩ | refine ⟨_, _, _, .inl rfl, rfl, rfl, ?_⟩ | refine ⟨_, .inr rfl, ?_⟩ | refine ⟨_, .inl rfl, ?_⟩ | refine ⟨(by intro s z; cases z), ?_⟩ | refine ⟨Nat.le_of_ble_eq_true rfl, ?_⟩ | refine ⟨rfl, ?_⟩ | refine iteT ?_ | refine iteF ?_ | refine ⟨_, _, rfl, ?_⟩ | refine ⟨_, _, _, rfl, ?_⟩)
    refine ⟨ok, ?_⟩
    repeat (first | refine ⟨_, rfl, ?_⟩ | refine ⟨_, _, rfl, rfl, ?_⟩ | refine ⟨_, _, _, .inr rfl, rfl, rfl, ?_⟩ | refine ⟨_, _, _, .inl rfl, rfl, rfl, ?_⟩ | refine ⟨_, .inr rfl, ?_⟩ | refine ⟨_, .inl rfl, ?_⟩ | refine ⟨(by intro s z; cases z), ?_⟩ | refine ⟨Nat.le_of_ble_eq_true rfl, ?_⟩ | refine ⟨rfl, ?_⟩ | refine iteT ?_ | refine iteF ?_ | refine ⟨_, _, rfl, ?_⟩ | refine ⟨_, _, _, rfl, ?_⟩)
    refine ⟨ok, ne, hrow, hl, ?_⟩
    repeat (first | refine ⟨_, rfl, ?_⟩ | refine ⟨_, _, rfl, rfl, ?_⟩ | refine ⟨_, _, _, .inr rfl, rfl, rfl, ?_⟩ | refine ⟨_, _, _, .inl rfl, rfl, rfl, ?_⟩ | refine ⟨_, .inr rfl, ?_⟩ | refine ⟨_, .inl rfl, ?_⟩ | refine ⟨(by intro s z; cases z), ?_⟩ | refine ⟨Nat.le_of_ble_eq_true rfl, ?_⟩ | refine ⟨rfl, ?_⟩ | refine iteT ?_ | refine iteF ?_ | refine ⟨_, _, rfl, ?_⟩ | refine ⟨_, _, _, rfl, ?_⟩)
    exact h
def phi_row_kind : Phi := fun ds Q => ∃ g row, ds = [eGar g, eRow row] ∧ GarOk g ∧ row ≠ [] ∧ RowIn g.2 g.1 row ∧ row.length ≤ 1000 ∧ Q (eN (kindOf g row))
abbrev s_row_kind : Stmt := topS 46
theorem sc_row_kind : FnScope ["garden", "row"] ["garden", "row"] (defScope s_row_kind) := ⟨rfl, rfl, rfl, by decide +kernel, rfl, by decide +kernel, by decide +kernel⟩
theorem ok_row_kind {f : Addr} {fd : FuncData} (F : Fun K "row_kind" "row_kind" s_row_kind f fd) (N : Nms mg) (h_need_row : Has P w K mg base "need_row" 9 ["garden", "row"] (sp3 ⟨T, none⟩ phi_need_row)) (h_kind_of : Has P w K mg base "kind_of" 4 ["garden", "row"] (sp3 ⟨T, none⟩ phi_kind_of)) : FnOk P w K mg base CX0 10 f fd ["garden", "row"] (sp3 ⟨T, none⟩ phi_row_kind) := by
  refine fn3 F sc_row_kind (fun ds QD h => ?_) (fun cdv A outer s H E hr => ⟨_, _, (by exact qss_cons (qs_expr (q_call h_need_row (hr.mono (by decide)) (qa_cons (q_var 0) (qa_cons (q_var 1) qa_nil)))) (qss_one (qs_ret (q_call h_kind_of (hr.mono (by decide)) (qa_cons (q_var 0) (qa_cons (q_var 1) qa_nil)))))), fun ds QD h => ?_⟩)
  · obtain ⟨g, row, rfl, _⟩ := h; rfl
  · obtain ⟨g, row, rfl, ok, ne, hrow, hl, h⟩ := h
    repeat (first | refine ⟨_, rfl, ?_⟩ | refine ⟨_, _, rfl, rfl, ?_⟩ | refine ⟨_, _, _, .inr rfl, rfl, rfl, ?_⟩ | refine ⟨_, _, _, .inl rfl, rfl, rfl, ?_⟩ | refine ⟨_, .inr rfl, ?_⟩ | refine ⟨_, .inl rfl, ?_⟩ | refine ⟨(by intro s z; cases z), ?_⟩ | refine ⟨Nat.le_of_ble_eq_true rfl, ?_⟩ | refine ⟨rfl, ?_⟩ | refine iteT ?_ | refine iteF ?_ | refine ⟨_, _, rfl, ?_⟩ | refine ⟨_, _, _, rfl, ?_⟩)
    refine ⟨ok, ne, hrow, hl, ?_⟩
    repeat (first | refine ⟨_, rfl, ?_⟩ | refine ⟨_, _, rfl, rfl, ?_⟩ | refine ⟨_, _, _, .inr rfl, rfl, rfl, ?_⟩ | refine ⟨_, _, _, .inl rfl, rfl, rfl, ?_⟩ | refine ⟨_, .inr rfl, ?_⟩ | refine ⟨_, .inl rfl, ?_⟩ | refine ⟨(by intro s z; cases z), ?_⟩ | refine ⟨Nat.le_of_ble_eq_true rfl, ?_⟩ | refine ⟨rfl, ?_⟩ | refine iteT ?_ | refine iteF ?_ | refine ⟨_, _, rfl, ?_⟩ | refine ⟨_, _, _, rfl, ?_⟩)
    exact ⟨ok, ne, hrow, hl, h⟩
def phi_row_ends : Phi := fun ds Q => ∃ g row, ds = [eGar g, eRow row] ∧ GarOk g ∧ row ≠ [] ∧ RowIn g.2 g.1 row ∧ row.length ≤ 1000 ∧ Q (.tuple [eAdr (endsI g row (row.length - 1)).1, eAdr (endsI g row (row.length - 1)).2.1])
abbrev s_row_ends : Stmt := topS 47
theorem sc_row_ends : FnScope ["garden", "row"] ["garden", "row"] (defScope s_row_ends) := ⟨rfl, rfl, rfl, by decide +kernel, rfl, by decide +kernel, by decide +kernel⟩
theorem ok_row_ends {f : Addr} {fd : FuncData} (F : Fun K "row_ends" "row_ends" s_row_ends f fd) (N : Nms mg) (h_need_row : Has P w K mg base "need_row" 9 ["garden", "row"] (sp3 ⟨T, none⟩ phi_need_row)) (h_ends_of : Has P w K mg base "ends_of" 1 ["garden", "row"] (sp3 ⟨T, none⟩ phi_ends_of)) : FnOk P w K mg base CX0 10 f fd ["garden", "row"] (sp3 ⟨T, none⟩ phi_row_ends) := by
  refine fn3 F sc_row_ends (fun ds QD h => ?_) (fun cdv A outer s H E hr => ⟨_, _, (by exact qss_cons (qs_expr (q_call h_need_row (hr.mono (by decide)) (qa_cons (q_var 0) (qa_cons (q_var 1) qa_nil)))) (qss_one (qs_ret (q_call h_ends_of (hr.mono (by decide)) (qa_cons (q_var 0) (qa_cons (q_var 1) qa_nil)))))), fun ds QD h => ?_⟩)
  · obtain ⟨g, row, rfl, _⟩ := h; rfl
  · obtain ⟨g, row, rfl, ok, ne, hrow, hl, h⟩ := h
    repeat (first | refine ⟨_, rfl, ?_⟩ | refine ⟨_, _, rfl, rfl, ?_⟩ | refine ⟨_, _, _, .inr rfl, rfl, rfl, ?_⟩ | refine ⟨_, _, _, .inl rfl, rfl, rfl, ?_⟩ | refine ⟨_, .inr rfl, ?_⟩ | refine ⟨_, .inl rfl, ?_⟩ | refine ⟨(by intro s z; cases z), ?_⟩ | refine ⟨Nat.le_of_ble_eq_true rfl, ?_⟩ | refine ⟨rfl, ?_⟩ | refine iteT ?_ | refine iteF ?_ | refine ⟨_, _, rfl, ?_⟩ | refine ⟨_, _, _, rfl, ?_⟩)
    refine ⟨ok, ne, hrow, hl, ?_⟩
    repeat (first | refine ⟨_, rfl, ?_⟩ | refine ⟨_, _, rfl, rfl, ?_⟩ | refine ⟨_, _, _, .inr rfl, rfl, rfl, ?_⟩ | refine ⟨_, _, _, .inl rfl, rfl, rfl, ?_⟩ | refine ⟨_, .inr rfl, ?_⟩ | refine ⟨_, .inl rfl, ?_⟩ | refine ⟨(by intro s z; cases z), ?_⟩ | refine ⟨Nat.le_of_ble_eq_true rfl, ?_⟩ | refine ⟨rfl, ?_⟩ | refine iteT ?_ | refine iteF ?_ | refine ⟨_, _, rfl, ?_⟩ | refine ⟨_, _, _, rfl, ?_⟩)
    exact ⟨ok, ne, hrow, hl, h⟩
def phi_need_born : Phi := fun ds Q => ∃ g a n, ds = [eGar g, eAdr a, eN n] ∧ GarOk g ∧ AdrOk g a ∧ a.1.length ≤ n ∧ Q .none
abbrev s_need_born : Stmt := topS 48
theorem sc_need_born : FnScope ["garden", "address", "n"] ["garden", "address", "n"] (defScope s_need_born) := ⟨rfl, rfl, rfl, by decide +kernel, rfl, by decide +kernel, by decide +kernel⟩
theorem ok_need_born {f : Addr} {fd : FuncData} (F : Fun K "need_born" "need_born" s_need_born f fd) (N : Nms mg) (h_need_garden : Has P w K mg base "need_garden" 8 ["garden"] (sp3 ⟨T, none⟩ phi_need_garden)) (h_is_address_value : Has P w K mg base "is_address_value" 5 ["garden", "thing"] (sp3 ⟨T, none⟩ phi_is_address_value)) (h_is_integer : Has P w K mg base "is_integer" 1 ["thing"] (sp3 ⟨T, none⟩ phi_is_integer)) : FnOk P w K mg base CX0 9 f fd ["garden", "address", "n"] (sp3 ⟨T, none⟩ phi_need_born) := by
  refine fn3 F sc_need_born (fun ds QD h => ?_) (fun cdv A outer s H E hr => ⟨_, _, (by exact qss_cons (qs_expr (q_call h_need_garden (hr.mono (by decide)) (qa_cons (q_var 0) qa_nil))) (qss_cons (qs_if (qt_not (qt_val (q_call h_is_address_value (hr.mono (by decide)) (qa_cons (q_var 0) (qa_cons (q_var 1) qa_nil))))) (qss_never) (qss_nil)) (qss_one (qs_if (PDW.pdt (qw_or (qt_not (qt_val (q_call h_is_integer (hr.mono (by decide)) (qa_cons (q_var 2) qa_nil)))) (qw_or1 (qt_cmp op_lt l_lt (by decide) (by decide) (q_var 2) (q_cb call_lenK l_len rfl N.len PySem.boot_len (qa_cons (q_ixK (q_var 1) q_int) qa_nil)))))) (qss_never) (qss_nil))))), fun ds QD h => ?_⟩)
  · obtain ⟨g, a, n, rfl, _⟩ := h; rfl
  · obtain ⟨g, a, n, rfl, ok, aok, hn, h⟩ := h
    repeat (first | refine ⟨_, rfl, ?_⟩ | refine ⟨_, _, rfl, rfl, ?_⟩ | refine ⟨_, _, _, .inr rfl, rfl, rfl, ?_⟩ | refine ⟨_, _, _, .inl rfl, rfl, rfl, ?_⟩ | refine ⟨_, .inr rfl, ?_⟩ | refine ⟨_, .inl rfl, ?_⟩ | refine ⟨(by intro s z; cases z), ?_⟩ | refine ⟨Nat.le_of_ble_eq_true rfl, ?_⟩ | refine ⟨rfl, ?_⟩ | refine iteT ?_ | refine iteF ?_ | refine ⟨_, _, rfl, ?_⟩ | refine ⟨_, _, _, rfl, ?_⟩)
    refine ⟨ok, ?_⟩
    repeat (first | refine ⟨_, rfl, ?_⟩ | refine ⟨_, _, rfl, rfl, ?_⟩ | refine ⟨_, _, _, .inr rfl, rfl, rfl, ?_⟩ | refine ⟨_, _, _, .inl rfl, rfl, rfl, ?_⟩ | refine ⟨_, .inr rfl, ?_⟩ | refine ⟨_, .inl rfl, ?_⟩ | refine ⟨(by intro s z; cases z), ?_⟩ | refine ⟨Nat.le_of_ble_eq_true rfl, ?_⟩ | refine ⟨rfl, ?_⟩ | refine iteT ?_ | refine iteF ?_ | refine ⟨_, _, rfl, ?_⟩ | refine ⟨_, _, _, rfl, ?_⟩)
    refine ⟨ok, aok, ?_⟩
    repeat (first | refine ⟨_, rfl, ?_⟩ | refine ⟨_, _, rfl, rfl, ?_⟩ | refine ⟨_, _, _, .inr rfl, rfl, rfl, ?_⟩ | refine ⟨_, _, _, .inl rfl, rfl, rfl, ?_⟩ | refine ⟨_, .inr rfl, ?_⟩ | refine ⟨_, .inl rfl, ?_⟩ | refine ⟨(by intro s z; cases z), ?_⟩ | refine ⟨Nat.le_of_ble_eq_true rfl, ?_⟩ | refine ⟨rfl, ?_⟩ | refine iteT ?_ | refine iteF ?_ | refine ⟨_, _, rfl, ?_⟩ | refine ⟨_, _, _, rfl, ?_⟩)
    refine iteN (decide_eq_false (by simp; omega)) ?_
    exact h
def phi_ends_counted : Phi := fun ds Q => ∃ w p k, ds = [eWeb w, eN p, eN k] ∧ Below w k ∧ k ≤ 3 ∧ Q (.tuple [.list ((cntL w.2 false p k).map eN), .list ((cntL w.2 true p k).map eN)])
abbrev s_ends_counted : Stmt := topS 49
theorem sc_ends_counted : FnScope ["web", "place", "kinds", "tails", "heads", "tail", "head", "kind"] ["web", "place", "kinds"] (defScope s_ends_counted) := ⟨rfl, rfl, rfl, by decide +kernel, rfl, by decide +kernel, by decide +kernel⟩
theorem ok_ends_counted {f : Addr} {fd : FuncData} (F : Fun K "ends_counted" "ends_counted" s_ends_counted f fd) (N : Nms mg)  : FnOk P w K mg base CX0 1 f fd ["web", "place", "kinds"] (sp3 ⟨T, none⟩ phi_ends_counted) := by
  refine fn3 F sc_ends_counted (fun ds QD h => ?_) (fun cdv A outer s H E hr => ⟨_, _, (by exact qss_cons (qs_parLL (i := 3) (j := 4) rfl sc_ends_counted.nd rfl rfl (by decide) rfl rfl (ql_rep (PDL.pde (ql_lst (qa_cons q_int qa_nil))) (q_var 2)) (ql_rep (PDL.pde (ql_lst (qa_cons q_int qa_nil))) (q_var 2)) (by rfl)) (qss_cons (qs_for PassesOwn.never rfl (qi_tupK (q_ixK (q_var 0) q_int)) (qg_tupK (n := 3) rfl (qgs_cons (qg_name (i := 5) sc_ends_counted.nd) (qgs_cons (qg_name (i := 6) sc_ends_counted.nd) (qgs_cons (qg_name (i := 7) sc_ends_counted.nd) qgs_nil)))) (qss_cons (qs_if (qt_cmp op_eq l_eqI (by decide) (by decide) (q_var 5) (q_var 1)) (qss_one (qs_augO 3 (q_var 7) q_int)) (qss_nil)) (qss_one (qs_if (qt_cmp op_eq l_eqI (by decide) (by decide) (q_var 6) (q_var 1)) (qss_one (qs_augO 4 (q_var 7) q_int)) (qss_nil))))) (qss_fz 3 (qss_fz 4 (qss_one (qs_ret (q_tup (qa_cons (q_var 3) (qa_cons (q_var 4) qa_nil))))))))), fun ds QD h => ?_⟩)
  · obtain ⟨w, p, k, rfl, _⟩ := h; rfl
  · obtain ⟨w, p, k, rfl, bel, hk, h⟩ := h
    repeat (first | refine ⟨_, rfl, ?_⟩ | refine ⟨_, _, rfl, rfl, ?_⟩ | refine ⟨_, _, _, .inr rfl, rfl, rfl, ?_⟩ | refine ⟨_, _, _, .inl rfl, rfl, rfl, ?_⟩ | refine ⟨_, .inr rfl, ?_⟩ | refine ⟨_, .inl rfl, ?_⟩ | refine ⟨(by intro s z; cases z), ?_⟩ | refine ⟨Nat.le_of_ble_eq_true rfl, ?_⟩ | refine ⟨rfl, ?_⟩ | refine iteT ?_ | refine iteF ?_ | refine ⟨_, _, rfl, ?_⟩ | refine ⟨_, _, _, rfl, ?_⟩)
    refine ⟨by omega, ?_⟩
    repeat (first | refine ⟨_, rfl, ?_⟩ | refine ⟨_, _, rfl, rfl, ?_⟩ | refine ⟨_, _, _, .inr rfl, rfl, rfl, ?_⟩ | refine ⟨_, _, _, .inl rfl, rfl, rfl, ?_⟩ | refine ⟨_, .inr rfl, ?_⟩ | refine ⟨_, .inl rfl, ?_⟩ | refine ⟨(by intro s z; cases z), ?_⟩ | refine ⟨Nat.le_of_ble_eq_true rfl, ?_⟩ | refine ⟨rfl, ?_⟩ | refine iteT ?_ | refine iteF ?_ | refine ⟨_, _, rfl, ?_⟩ | refine ⟨_, _, _, rfl, ?_⟩)
    refine ⟨by omega, ?_⟩
    repeat (first | refine ⟨_, rfl, ?_⟩ | refine ⟨_, _, rfl, rfl, ?_⟩ | refine ⟨_, _, _, .inr rfl, rfl, rfl, ?_⟩ | refine ⟨_, _, _, .inl rfl, rfl, rfl, ?_⟩ | refine ⟨_, .inr rfl, ?_⟩ | refine ⟨_, .inl rfl, ?_⟩ | refine ⟨(by intro s z; cases z), ?_⟩ | refine ⟨Nat.le_of_ble_eq_true rfl, ?_⟩ | refine ⟨rfl, ?_⟩ | refine iteT ?_ | refine iteF ?_ | refine ⟨_, _, rfl, ?_⟩ | refine ⟨_, _, _, rfl, ?_⟩)
    have e0 : ∀ b : Bool, List.replicate k (PyData.int 0) = (cntL [] b p k).map eN := fun b => by
      rw [cntL_nil, List.map_replicate]
      rfl
    refine for_ind (enc := eTie) (fun i ρ => ∃ c5 c6 c7, ρ = [.dat (eWeb w), .dat (eN p), .dat (eN k), .own ((cntL (w.2.take i) false p k).map eN), .own ((cntL (w.2.take i) true p k).map eN), c5, c6, c7]) w.2 0 _ ⟨.un, .un, .un, ?_⟩ (fun i t ρ hi hI K' hK => ?_) (fun ρ hI => ?_)
    · show [Cell.dat (eWeb w), .dat (eN p), .dat (eN k), .own (List.replicate k (PyData.int 0)), .own (List.replicate k (PyData.int 0)), .un, .un, .un] = _
      rw [List.take_zero, ← e0, ← e0]
    · obtain ⟨c5, c6, c7, rfl⟩ := hI
      rw [Nat.zero_add] at hK ⊢
      have hc := bel _ (List.mem_of_getElem? hi)
      have up : ∀ b, ((cntL (w.2.take i) b p k).map eN).set t.2.2 (.int ((cntE (w.2.take i) b p t.2.2 : Nat) + 1)) = ((cntL (w.2.take i) b p k).set t.2.2 (cntE (w.2.take i) b p t.2.2 + 1)).map eN := fun b => by
        rw [List.map_set]
        rfl
      have gt : ∀ b, ((cntL (w.2.take i) b p k).map eN)[t.2.2]? = some (.int (cntE (w.2.take i) b p t.2.2 : Nat)) := fun b => by
        rw [List.getElem?_map, cntL_get hc]
        rfl
      rw [take_succ hi] at hK
      repeat (first | refine ⟨_, rfl, ?_⟩ | refine ⟨_, _, rfl, rfl, ?_⟩ | refine ⟨_, _, _, .inr rfl, rfl, rfl, ?_⟩ | refine ⟨_, _, _, .inl rfl, rfl, rfl, ?_⟩ | refine ⟨_, .inr rfl, ?_⟩ | refine ⟨_, .inl rfl, ?_⟩ | refine ⟨(by intro s z; cases z), ?_⟩ | refine ⟨Nat.le_of_ble_eq_true rfl, ?_⟩ | refine ⟨rfl, ?_⟩ | refine iteT ?_ | refine iteF ?_ | refine ⟨_, _, rfl, ?_⟩ | refine ⟨_, _, _, rfl, ?_⟩)
      by_cases h1 : t.1 = p
      · refine iteB (decide_eq_true (by omega)) ?_
        repeat (first | refine ⟨_, rfl, ?_⟩ | refine ⟨_, _, rfl, rfl, ?_⟩ | refine ⟨_, _, _, .inr rfl, rfl, rfl, ?_⟩ | refine ⟨_, _, _, .inl rfl, rfl, rfl, ?_⟩ | refine ⟨_, .inr rfl, ?_⟩ | refine ⟨_, .inl rfl, ?_⟩ | refine ⟨(by intro s z; cases z), ?_⟩ | refine ⟨Nat.le_of_ble_eq_true rfl, ?_⟩ | refine ⟨rfl, ?_⟩ | refine iteT ?_ | refine iteF ?_ | refine ⟨_, _, rfl, ?_⟩ | refine ⟨_, _, _, rfl, ?_⟩)
        refine ⟨t.2.2, _, rfl, gt false, ?_⟩
        repeat (first | refine ⟨_, rfl, ?_⟩ | refine ⟨_, _, rfl, rfl, ?_⟩ | refine ⟨_, _, _, .inr rfl, rfl, rfl, ?_⟩ | refine ⟨_, _, _, .inl rfl, rfl, rfl, ?_⟩ | refine ⟨_, .inr rfl, ?_⟩ | refine ⟨_, .inl rfl, ?_⟩ | refine ⟨(by intro s z; cases z), ?_⟩ | refine ⟨Nat.le_of_ble_eq_true rfl, ?_⟩ | refine ⟨rfl, ?_⟩ | refine iteT ?_ | refine iteF ?_ | refine ⟨_, _, rfl, ?_⟩ | refine ⟨_, _, _, rfl, ?_⟩)
        by_cases h2 : t.2.1 = p
        · refine iteB (decide_eq_true (by omega)) ?_
          repeat (first | refine ⟨_, rfl, ?_⟩ | refine ⟨_, _, rfl, rfl, ?_⟩ | refine ⟨_, _, _, .inr rfl, rfl, rfl, ?_⟩ | refine ⟨_, _, _, .inl rfl, rfl, rfl, ?_⟩ | refine ⟨_, .inr rfl, ?_⟩ | refine ⟨_, .inl rfl, ?_⟩ | refine ⟨(by intro s z; cases z), ?_⟩ | refine ⟨Nat.le_of_ble_eq_true rfl, ?_⟩ | refine ⟨rfl, ?_⟩ | refine iteT ?_ | refine iteF ?_ | refine ⟨_, _, rfl, ?_⟩ | refine ⟨_, _, _, rfl, ?_⟩)
          refine ⟨t.2.2, _, rfl, gt true, ?_⟩
          repeat (first | refine ⟨_, rfl, ?_⟩ | refine ⟨_, _, rfl, rfl, ?_⟩ | refine ⟨_, _, _, .inr rfl, rfl, rfl, ?_⟩ | refine ⟨_, _, _, .inl rfl, rfl, rfl, ?_⟩ | refine ⟨_, .inr rfl, ?_⟩ | refine ⟨_, .inl rfl, ?_⟩ | refine ⟨(by intro s z; cases z), ?_⟩ | refine ⟨Nat.le_of_ble_eq_true rfl, ?_⟩ | refine ⟨rfl, ?_⟩ | refine iteT ?_ | refine iteF ?_ | refine ⟨_, _, rfl, ?_⟩ | refine ⟨_, _, _, rfl, ?_⟩)
          refine byEnv ?_ (hK _ ⟨.dat (eN t.1), .dat (eN t.2.1), .dat (eN t.2.2), rfl⟩)
          rw [cntL_hit (s := false) (t := t) h1, cntL_hit (s := true) (t := t) h2, ← up, ← up]
          rfl
        · refine iteN (decide_eq_false (by omega)) ?_
          refine byEnv ?_ (hK _ ⟨.dat (eN t.1), .dat (eN t.2.1), .dat (eN t.2.2), rfl⟩)
          rw [cntL_hit (s := false) (t := t) h1, cntL_miss (s := true) (t := t) h2, ← up]
          rfl
      · refine iteN (decide_eq_false (by omega)) ?_
        repeat (first | refine ⟨_, rfl, ?_⟩ | refine ⟨_, _, rfl, rfl, ?_⟩ | refine ⟨_, _, _, .inr rfl, rfl, rfl, ?_⟩ | refine ⟨_, _, _, .inl rfl, rfl, rfl, ?_⟩ | refine ⟨_, .inr rfl, ?_⟩ | refine ⟨_, .inl rfl, ?_⟩ | refine ⟨(by intro s z; cases z), ?_⟩ | refine ⟨Nat.le_of_ble_eq_true rfl, ?_⟩ | refine ⟨rfl, ?_⟩ | refine iteT ?_ | refine iteF ?_ | refine ⟨_, _, rfl, ?_⟩ | refine ⟨_, _, _, rfl, ?_⟩)
        by_cases h2 : t.2.1 = p
        · refine iteB (decide_eq_true (by omega)) ?_
          repeat (first | refine ⟨_, rfl, ?_⟩ | refine ⟨_, _, rfl, rfl, ?_⟩ | refine ⟨_, _, _, .inr rfl, rfl, rfl, ?_⟩ | refine ⟨_, _, _, .inl rfl, rfl, rfl, ?_⟩ | refine ⟨_, .inr rfl, ?_⟩ | refine ⟨_, .inl rfl, ?_⟩ | refine ⟨(by intro s z; cases z), ?_⟩ | refine ⟨Nat.le_of_ble_eq_true rfl, ?_⟩ | refine ⟨rfl, ?_⟩ | refine iteT ?_ | refine iteF ?_ | refine ⟨_, _, rfl, ?_⟩ | refine ⟨_, _, _, rfl, ?_⟩)
          refine ⟨t.2.2, _, rfl, gt true, ?_⟩
          repeat (first | refine ⟨_, rfl, ?_⟩ | refine ⟨_, _, rfl, rfl, ?_⟩ | refine ⟨_, _, _, .inr rfl, rfl, rfl, ?_⟩ | refine ⟨_, _, _, .inl rfl, rfl, rfl, ?_⟩ | refine ⟨_, .inr rfl, ?_⟩ | refine ⟨_, .inl rfl, ?_⟩ | refine ⟨(by intro s z; cases z), ?_⟩ | refine ⟨Nat.le_of_ble_eq_true rfl, ?_⟩ | refine ⟨rfl, ?_⟩ | refine iteT ?_ | refine iteF ?_ | refine ⟨_, _, rfl, ?_⟩ | refine ⟨_, _, _, rfl, ?_⟩)
          refine byEnv ?_ (hK _ ⟨.dat (eN t.1), .dat (eN t.2.1), .dat (eN t.2.2), rfl⟩)
          rw [cntL_miss (s := false) (t := t) h1, cntL_hit (s := true) (t := t) h2, ← up]
          rfl
        · refine iteN (decide_eq_false (by omega)) ?_
          refine byEnv ?_ (hK _ ⟨.dat (eN t.1), .dat (eN t.2.1), .dat (eN t.2.2), rfl⟩)
          rw [cntL_miss (s := false) (t := t) h1, cntL_miss (s := true) (t := t) h2]
          rfl
    · obtain ⟨c5, c6, c7, rfl⟩ := hI
      rw [Nat.zero_add, List.take_length]
      repeat (first | refine ⟨_, rfl, ?_⟩ | refine ⟨_, _, rfl, rfl, ?_⟩ | refine ⟨_, _, _, .inr rfl, rfl, rfl, ?_⟩ | refine ⟨_, _, _, .inl rfl, rfl, rfl, ?_⟩ | refine ⟨_, .inr rfl, ?_⟩ | refine ⟨_, .inl rfl, ?_⟩ | refine ⟨(by intro s z; cases z), ?_⟩ | refine ⟨Nat.le_of_ble_eq_true rfl, ?_⟩ | refine ⟨rfl, ?_⟩ | refine iteT ?_ | refine iteF ?_ | refine ⟨_, _, rfl, ?_⟩ | refine ⟨_, _, _, rfl, ?_⟩)
      exact h
end
end L3
namespace L3
open PySem L2
open PySem.Spec
theorem rgN0 (n : Nat) : rgN 0 ((n : Int)).toNat = (List.range n).map eN := by
  unfold rgN
  rw [Int.toNat_natCast]
  refine List.map_congr_left fun i _ => ?_
  simp [eN]
section
variable {P : Program} {w : World} {K : PySem.W.Frag} {mg : Str → Option Value} {base : Heap} {T : List (Addr × Str)}
def phi_all_addresses : Phi := fun ds Q => ∃ g n, ds = [eGar g, eN n] ∧ GarOk g ∧ StFit g n ∧ n ≤ 900 ∧ Q (.list ((allA g n).map eAdr))
abbrev s_all_addresses : Stmt := topS 51
theorem sc_all_addresses : FnScope ["garden", "n", "found", "turn", "start", "book", "places", "rows", "place", "tie", "row", "number", "inner"] ["garden", "n"] (defScope s_all_addresses) := ⟨rfl, rfl, rfl, by decide +kernel, rfl, by decide +kernel, by decide +kernel⟩
theorem ok_all_addresses {f : Addr} {fd : FuncData} (F : Fun K "all_addresses" "all_addresses" s_all_addresses f fd) (N : Nms mg) (h_round_rows : Has P w K mg base "round_rows" 3 ["places", "rows", "book"] (sp3 ⟨T, none⟩ phi_round_rows)) (h_inner_places : Has P w K mg base "inner_places" 1 ["growth"] (sp3 ⟨T, none⟩ phi_inner_places)) : FnOk P w K mg base CX0 4 f fd ["garden", "n"] (sp3 ⟨T, none⟩ phi_all_addresses) := by
  refine fn3 F sc_all_addresses (fun ds QD h => ?_) (fun cdv A outer s H E hr => ⟨_, _, (by exact qss_cons (qs_asg (q_var 0) (qg_tupK (n := 2) rfl (qgs_cons (qg_name (i := 4) sc_all_addresses.nd) (qgs_cons (qg_name (i := 5) sc_all_addresses.nd) qgs_nil)))) (qss_cons (qs_setLc (i := 2) rfl sc_all_addresses.nd rfl rfl (sw_true rfl rfl rfl (by decide +kernel)) (own := [("place", 8)]) (qi_rng1 rfl N.range (q_ixK (q_var 4) q_int)) (blkOk_by (by rfl)) (fun _ _ _ _ _ => (qg_name (i := 8) sc_all_addresses.nd)) (fun _ _ _ _ _ => qts_nil) (fun _ _ _ _ _ => (q_tup (qa_cons (q_tup qa_nil) (qa_cons (q_var 8) qa_nil)))) (by decide) s) (qss_cons (qs_par (i := 6) (j := 7) rfl sc_all_addresses.nd rfl rfl (by decide) rfl rfl (qa_cons (q_ixK (q_var 4) q_int) (qa_cons (PDL.pde (ql_lc rfl sc_all_addresses.nd (own := [("number", 11), ("tie", 9)]) (qi_enumTK rfl N.enumerate (q_ixK (q_var 4) q_int)) (blkOk_by (by rfl)) (fun _ _ _ _ _ => (qg_tupK (n := 2) rfl (qgs_cons (qg_name (i := 11) sc_all_addresses.nd) (qgs_cons (qg_name (i := 9) sc_all_addresses.nd) qgs_nil)))) (fun _ _ _ _ _ => qts_nil) (fun _ _ _ _ _ => (q_tup (qa_cons (q_var 9) (qa_cons (q_tup (qa_cons (q_var 11) qa_nil)) qa_nil)))) (by decide) s)) qa_nil)) (by rfl)) (qss_cons (qs_for PassesOwn.never rfl (qi_rng1 rfl N.range (q_var 1)) (qg_name (i := 3) sc_all_addresses.nd) (qss_cons (qs_for PassesOwn.never rfl (qi_listK (q_var 7)) (qg_tupK (n := 2) rfl (qgs_cons (qg_name (i := 9) sc_all_addresses.nd) (qgs_cons (qg_name (i := 10) sc_all_addresses.nd) qgs_nil))) (qss_one (qs_ext 2 (PDL.pde (ql_lc rfl sc_all_addresses.nd (own := [("inner", 12)]) (qi_rng1 rfl N.range (q_call h_inner_places (hr.mono (by decide)) (qa_cons (q_ixK (q_var 5) (q_ixK (q_var 9) q_int)) qa_nil))) (blkOk_by (by rfl)) (fun _ _ _ _ _ => (qg_name (i := 12) sc_all_addresses.nd)) (fun _ _ _ _ _ => qts_nil) (fun _ _ _ _ _ => (q_tup (qa_cons (q_var 10) (qa_cons (q_add q_int (q_var 12)) qa_nil)))) (by decide) s))))) (qss_one (qs_asg (q_call h_round_rows (hr.mono (by decide)) (qa_cons (q_var 6) (qa_cons (q_var 7) (qa_cons (q_var 5) qa_nil)))) (qg_tupK (n := 2) rfl (qgs_cons (qg_name (i := 6) sc_all_addresses.nd) (qgs_cons (qg_name (i := 7) sc_all_addresses.nd) qgs_nil))))))) (qss_fz 2 (qss_one (qs_ret (q_var 2)))))))), fun ds QD h => ?_⟩)
  · obtain ⟨g, n, rfl, _⟩ := h; rfl
  · obtain ⟨g, n, rfl, ok, fit, hn, h⟩ := h
    have hs := ok.start.small
    repeat (first | refine ⟨_, rfl, ?_⟩ | refine ⟨_, _, rfl, rfl, ?_⟩ | refine ⟨_, _, _, .inr rfl, rfl, rfl, ?_⟩ | refine ⟨_, _, _, .inl rfl, rfl, rfl, ?_⟩ | refine ⟨_, .inr rfl, ?_⟩ | refine ⟨_, .inl rfl, ?_⟩ | refine ⟨(by intro s z; cases z), ?_⟩ | refine ⟨Nat.le_of_ble_eq_true rfl, ?_⟩ | refine ⟨rfl, ?_⟩ | refine iteT ?_ | refine iteF ?_ | refine ⟨_, _, rfl, ?_⟩ | refine ⟨_, _, _, rfl, ?_⟩)
    refine ⟨by omega, by omega, ?_⟩
    rw [rgN0]
    refine lc_map (enc := eN) (f := fun p => eAdr ([], p)) (List.range g.1.1) [] (by simp; omega) (fun p hp K' hK => ?_) ?_
    · repeat (first | refine ⟨_, rfl, ?_⟩ | refine ⟨_, _, rfl, rfl, ?_⟩ | refine ⟨_, _, _, .inr rfl, rfl, rfl, ?_⟩ | refine ⟨_, _, _, .inl rfl, rfl, rfl, ?_⟩ | refine ⟨_, .inr rfl, ?_⟩ | refine ⟨_, .inl rfl, ?_⟩ | refine ⟨(by intro s z; cases z), ?_⟩ | refine ⟨Nat.le_of_ble_eq_true rfl, ?_⟩ | refine ⟨rfl, ?_⟩ | refine iteT ?_ | refine iteF ?_ | refine ⟨_, _, rfl, ?_⟩ | refine ⟨_, _, _, rfl, ?_⟩)
      exact hK
    repeat (first | refine ⟨_, rfl, ?_⟩ | refine ⟨_, _, rfl, rfl, ?_⟩ | refine ⟨_, _, _, .inr rfl, rfl, rfl, ?_⟩ | refine ⟨_, _, _, .inl rfl, rfl, rfl, ?_⟩ | refine ⟨_, .inr rfl, ?_⟩ | refine ⟨_, .inl rfl, ?_⟩ | refine ⟨(by intro s z; cases z), ?_⟩ | refine ⟨Nat.le_of_ble_eq_true rfl, ?_⟩ | refine ⟨rfl, ?_⟩ | refine iteT ?_ | refine iteF ?_ | refine ⟨_, _, rfl, ?_⟩ | refine ⟨_, _, _, rfl, ?_⟩)
    rw [show List.map eTie g.1.2 = List.map eTie g.1.2 from rfl, enD_num]
    refine lc_map (enc := fun q : Nat × Tie => PyData.tuple [eN q.1, eTie q.2]) (f := fun q => ePair (q.2, [q.1])) (num 0 g.1.2) [] (by have := ok.start.few; simp [num_len]; omega) (fun p hp K' hK => ?_) ?_
    · repeat (first | refine ⟨_, rfl, ?_⟩ | refine ⟨_, _, rfl, rfl, ?_⟩ | refine ⟨_, _, _, .inr rfl, rfl, rfl, ?_⟩ | refine ⟨_, _, _, .inl rfl, rfl, rfl, ?_⟩ | refine ⟨_, .inr rfl, ?_⟩ | refine ⟨_, .inl rfl, ?_⟩ | refine ⟨(by intro s z; cases z), ?_⟩ | refine ⟨Nat.le_of_ble_eq_true rfl, ?_⟩ | refine ⟨rfl, ?_⟩ | refine iteT ?_ | refine iteF ?_ | refine ⟨_, _, rfl, ?_⟩ | refine ⟨_, _, _, rfl, ?_⟩)
      exact hK
    repeat (first | refine ⟨_, rfl, ?_⟩ | refine ⟨_, _, rfl, rfl, ?_⟩ | refine ⟨_, _, _, .inr rfl, rfl, rfl, ?_⟩ | refine ⟨_, _, _, .inl rfl, rfl, rfl, ?_⟩ | refine ⟨_, .inr rfl, ?_⟩ | refine ⟨_, .inl rfl, ?_⟩ | refine ⟨(by intro s z; cases z), ?_⟩ | refine ⟨Nat.le_of_ble_eq_true rfl, ?_⟩ | refine ⟨rfl, ?_⟩ | refine iteT ?_ | refine iteF ?_ | refine ⟨_, _, rfl, ?_⟩ | refine ⟨_, _, _, rfl, ?_⟩)
    refine ⟨by omega, by omega, ?_⟩
    rw [rgN0]
    refine for_ind (enc := eN) (fun i ρ => ∃ c3 c8 c9 c10 c11 c12, ρ = [.dat (eGar g), .dat (eN n), .own ((allA g i).map eAdr), c3, .dat (eWeb g.1), .dat (eBook g.2), .dat (eN (stR g i).1), .dat (.list ((stR g i).2.map ePair)), c8, c9, c10, c11, c12]) (List.range n) 0 _ ⟨.un, .un, .un, .un, .un, .un, ?_⟩ (fun i j ρ hi hI K' hK => ?_) (fun ρ hI => ?_)
    · simp [allA, stR, env0, Function.comp_def]
    · obtain ⟨c3, c8, c9, c10, c11, c12, rfl⟩ := hI
      rw [Nat.zero_add] at hK ⊢
      obtain ⟨hlt, rfl⟩ : i < n ∧ j = i := by
        have h1 := (List.getElem?_eq_some_iff.mp hi).1
        rw [List.length_range] at h1
        rw [List.getElem?_range h1] at hi
        exact ⟨h1, (Option.some.inj hi).symm⟩
      have f1 := fit.places (j + 1) (by omega)
      have f2 := fit.rows (j + 1) (by omega)
      have f3 := fit.rows j (by omega)
      have e1 : (foundR g.2 (stR g j).1 (stR g j).2).length = (stR g (j + 1)).2.length := (sortE_len _).symm
      have e2 : endR g.2 (stR g j).1 (stR g j).2 = (stR g (j + 1)).1 := rfl
      have e3 := allA_len g (j + 1)
      have e4 : allA g (j + 1) = allA g j ++ adrsOf g.2 (stR g j).2 := rfl
      repeat (first | refine ⟨_, rfl, ?_⟩ | refine ⟨_, _, rfl, rfl, ?_⟩ | refine ⟨_, _, _, .inr rfl, rfl, rfl, ?_⟩ | refine ⟨_, _, _, .inl rfl, rfl, rfl, ?_⟩ | refine ⟨_, .inr rfl, ?_⟩ | refine ⟨_, .inl rfl, ?_⟩ | refine ⟨(by intro s z; cases z), ?_⟩ | refine ⟨Nat.le_of_ble_eq_true rfl, ?_⟩ | refine ⟨rfl, ?_⟩ | refine iteT ?_ | refine iteF ?_ | refine ⟨_, _, rfl, ?_⟩ | refine ⟨_, _, _, rfl, ?_⟩)
      refine for_ind (enc := ePair) (fun i ρ => ∃ c9 c10 c11 c12, ρ = [.dat (eGar g), .dat (eN n), .own ((allA g j ++ adrsOf g.2 ((stR g j).2.take i)).map eAdr), .dat (eN j), .dat (eWeb g.1), .dat (eBook g.2), .dat (eN (stR g j).1), .dat (.list ((stR g j).2.map ePair)), c8, c9, c10, c11, c12]) (stR g j).2 0 _ ⟨c9, c10, c11, c12, ?_⟩ (fun i p ρ hi hI K2 hK2 => ?_) (fun ρ hI => ?_)
      · simp [adrsOf]
      · obtain ⟨c9, c10, c11, c12, rfl⟩ := hI
        rw [Nat.zero_add] at hK2 ⊢
        obtain ⟨hc, hrow⟩ := stR_row ok j p (List.mem_of_getElem? hi)
        obtain ⟨k1, k2, k3⟩ := ok.book.webs _ (kd_mem hc)
        obtain ⟨rest, hrest⟩ := take_add hi
        have hsz : (allA g j).length + ((adrsOf g.2 ((stR g j).2.take i)).length + inn g.2 p.1.2.2) ≤ 400 := by
          have e := congrArg (fun l => (adrsOf g.2 l).length) hrest
          rw [e4, List.length_append] at e3
          simp only [adrsOf_app, List.length_append, show p :: rest = [p] ++ rest from rfl, adrsOf_one, List.length_map, List.length_range] at e
          omega
        repeat (first | refine ⟨_, rfl, ?_⟩ | refine ⟨_, _, rfl, rfl, ?_⟩ | refine ⟨_, _, _, .inr rfl, rfl, rfl, ?_⟩ | refine ⟨_, _, _, .inl rfl, rfl, rfl, ?_⟩ | refine ⟨_, .inr rfl, ?_⟩ | refine ⟨_, .inl rfl, ?_⟩ | refine ⟨(by intro s z; cases z), ?_⟩ | refine ⟨Nat.le_of_ble_eq_true rfl, ?_⟩ | refine ⟨rfl, ?_⟩ | refine iteT ?_ | refine iteF ?_ | refine ⟨_, _, rfl, ?_⟩ | refine ⟨_, _, _, rfl, ?_⟩)
        refine ix_book hc ?_
        repeat (first | refine ⟨_, rfl, ?_⟩ | refine ⟨_, _, rfl, rfl, ?_⟩ | refine ⟨_, _, _, .inr rfl, rfl, rfl, ?_⟩ | refine ⟨_, _, _, .inl rfl, rfl, rfl, ?_⟩ | refine ⟨_, .inr rfl, ?_⟩ | refine ⟨_, .inl rfl, ?_⟩ | refine ⟨(by intro s z; cases z), ?_⟩ | refine ⟨Nat.le_of_ble_eq_true rfl, ?_⟩ | refine ⟨rfl, ?_⟩ | refine iteT ?_ | refine iteF ?_ | refine ⟨_, _, rfl, ?_⟩ | refine ⟨_, _, _, rfl, ?_⟩)
        refine ⟨k2, ?_⟩
        repeat (first | refine ⟨_, rfl, ?_⟩ | refine ⟨_, _, rfl, rfl, ?_⟩ | refine ⟨_, _, _, .inr rfl, rfl, rfl, ?_⟩ | refine ⟨_, _, _, .inl rfl, rfl, rfl, ?_⟩ | refine ⟨_, .inr rfl, ?_⟩ | refine ⟨_, .inl rfl, ?_⟩ | refine ⟨(by intro s z; cases z), ?_⟩ | refine ⟨Nat.le_of_ble_eq_true rfl, ?_⟩ | refine ⟨rfl, ?_⟩ | refine iteT ?_ | refine iteF ?_ | refine ⟨_, _, rfl, ?_⟩ | refine ⟨_, _, _, rfl, ?_⟩)
        have hin : (kd g.2 p.1.2.2).1 - 2 = inn g.2 p.1.2.2 := rfl
        refine ⟨by omega, by omega, ?_⟩
        rw [rgN0, hin]
        refine lc_map (enc := eN) (f := fun q => eAdr (p.2, 2 + q)) (List.range (inn g.2 p.1.2.2)) [] (by simp; omega) (fun q hq K3 hK3 => ?_) ?_
        · repeat (first | refine ⟨_, rfl, ?_⟩ | refine ⟨_, _, rfl, rfl, ?_⟩ | refine ⟨_, _, _, .inr rfl, rfl, rfl, ?_⟩ | refine ⟨_, _, _, .inl rfl, rfl, rfl, ?_⟩ | refine ⟨_, .inr rfl, ?_⟩ | refine ⟨_, .inl rfl, ?_⟩ | refine ⟨(by intro s z; cases z), ?_⟩ | refine ⟨Nat.le_of_ble_eq_true rfl, ?_⟩ | refine ⟨rfl, ?_⟩ | refine iteT ?_ | refine iteF ?_ | refine ⟨_, _, rfl, ?_⟩ | refine ⟨_, _, _, rfl, ?_⟩)
          exact byEq (Q := K3) hK3 (by simp [eAdr, eN])
        · repeat (first | refine ⟨_, rfl, ?_⟩ | refine ⟨_, _, rfl, rfl, ?_⟩ | refine ⟨_, _, _, .inr rfl, rfl, rfl, ?_⟩ | refine ⟨_, _, _, .inl rfl, rfl, rfl, ?_⟩ | refine ⟨_, .inr rfl, ?_⟩ | refine ⟨_, .inl rfl, ?_⟩ | refine ⟨(by intro s z; cases z), ?_⟩ | refine ⟨Nat.le_of_ble_eq_true rfl, ?_⟩ | refine ⟨rfl, ?_⟩ | refine iteT ?_ | refine iteF ?_ | refine ⟨_, _, rfl, ?_⟩ | refine ⟨_, _, _, rfl, ?_⟩)
          refine ⟨by simp; omega, ?_⟩
          refine byEnv ?_ (hK2 _ ⟨.dat (eTie p.1), .dat (eRow p.2), c11, c12, rfl⟩)
          rw [take_succ hi, adrsOf_app, adrsOf_one]
          simp [Function.comp_def]
      · obtain ⟨c9, c10, c11, c12, rfl⟩ := hI
        rw [Nat.zero_add, List.take_length]
        repeat (first | refine ⟨_, rfl, ?_⟩ | refine ⟨_, _, rfl, rfl, ?_⟩ | refine ⟨_, _, _, .inr rfl, rfl, rfl, ?_⟩ | refine ⟨_, _, _, .inl rfl, rfl, rfl, ?_⟩ | refine ⟨_, .inr rfl, ?_⟩ | refine ⟨_, .inl rfl, ?_⟩ | refine ⟨(by intro s z; cases z), ?_⟩ | refine ⟨Nat.le_of_ble_eq_true rfl, ?_⟩ | refine ⟨rfl, ?_⟩ | refine iteT ?_ | refine iteF ?_ | refine ⟨_, _, rfl, ?_⟩ | refine ⟨_, _, _, rfl, ?_⟩)
        refine ⟨ok.book, fun p hp => ?_, by omega, by omega, ?_⟩
        · obtain ⟨k1, k2⟩ := stR_row ok j p hp
          exact ⟨k1, by omega⟩
        · repeat (first | refine ⟨_, rfl, ?_⟩ | refine ⟨_, _, rfl, rfl, ?_⟩ | refine ⟨_, _, _, .inr rfl, rfl, rfl, ?_⟩ | refine ⟨_, _, _, .inl rfl, rfl, rfl, ?_⟩ | refine ⟨_, .inr rfl, ?_⟩ | refine ⟨_, .inl rfl, ?_⟩ | refine ⟨(by intro s z; cases z), ?_⟩ | refine ⟨Nat.le_of_ble_eq_true rfl, ?_⟩ | refine ⟨rfl, ?_⟩ | refine iteT ?_ | refine iteF ?_ | refine ⟨_, _, rfl, ?_⟩ | refine ⟨_, _, _, rfl, ?_⟩)
          refine byEnv ?_ (hK _ ⟨.dat (eN j), c8, c9, c10, c11, c12, rfl⟩)
          rw [e4]
          rfl
    · obtain ⟨c3, c8, c9, c10, c11, c12, rfl⟩ := hI
      rw [Nat.zero_add, List.length_range]
      repeat (first | refine ⟨_, rfl, ?_⟩ | refine ⟨_, _, rfl, rfl, ?_⟩ | refine ⟨_, _, _, .inr rfl, rfl, rfl, ?_⟩ | refine ⟨_, _, _, .inl rfl, rfl, rfl, ?_⟩ | refine ⟨_, .inr rfl, ?_⟩ | refine ⟨_, .inl rfl, ?_⟩ | refine ⟨(by intro s z; cases z), ?_⟩ | refine ⟨Nat.le_of_ble_eq_true rfl, ?_⟩ | refine ⟨rfl, ?_⟩ | refine iteT ?_ | refine iteF ?_ | refine ⟨_, _, rfl, ?_⟩ | refine ⟨_, _, _, rfl, ?_⟩)
      exact h
end
end L3
namespace L3
open PySem L2
open PySem.Spec
section
variable {P : Program} {w : World} {K : PySem.W.Frag} {mg : Str → Option Value} {base : Heap} {T : List (Addr × Str)}
abbrev s_repeated : Stmt := topS 33
theorem sc_repeated : FnScope ["first", "step", "n", "seen", "values", "value", "begin"] ["first", "step", "n"] (defScope s_repeated) := ⟨rfl, rfl, rfl, by decide +kernel, rfl, by decide +kernel, by decide +kernel⟩
abbrev rN : List Str := ["first", "step", "n", "seen", "values", "value", "begin"]
abbrev repX (P : Program) (w : World) (K : PySem.W.Frag) (mg : Str → Option Value) (base : Heap) (g : Addr) (cdg : Value) (A : Around) (outer : List Env) (s : Shared) (H : Hp) : Cx := (cxOf CX0 P w K mg base rN "repeated" (defScope s_repeated) g cdg A outer s H E0).nox
abbrev tTestR (K : PySem.W.Frag) : TT := tTest (tOp (rI0 fun i j => .bl (decide (i ≤ j))) (tCB (fun xs H Q => ∃ p ys, xs = [.ref p] ∧ (SqL K H p ys ∨ SqT K H p ys) ∧ Q (.int ys.length) H) (tCons (tVar 4) tNil)) (tVar 2))
theorem pack {X : Cx} {C : C3} {e : Expr} {t : TE} {τ : TD} (h : PDE X C e t τ) {R : Prop} (k : PE X e t → Snd C t τ → R) : R := k h.pe h.snd
theorem packT {X : Cx} {C : C3} {e : Expr} {t : TT} {τ : TTd} (h : PDT X C e t τ) {R : Prop} (k : PT X e t → SndT C t τ → R) : R := k h.pt h.snd
theorem packS {X : Cx} {C : C3} {e : Stmt} {t : TS} {τ : TSd} (h : PDS X C e t τ) {R : Prop} (k : PS X e t → SndS C t τ → R) : R := k h.ps h.snd
theorem rep_ps (N : Nms mg) {g : Addr} {cdg : Value} {A : Around} {outer : List Env} {s : Shared} {H : Hp} {tb te : TE} {C : C3} {F : LF} {f : Addr} {Nl : List Str} {ws : List (Option V)} (hu : (repX P w K mg base g cdg A outer s H).A.units + 9 < cLine)
    (hl : ∀ {e : Expr} {te : TE} {p pos : Pos}, PE (repX P w K mg base g cdg A outer s H) e te → starEach [e] (repX P w K mg base g cdg A outer s H).env = (false, eval e (repX P w K mg base g cdg A outer s H).env) :: starEach [] (repX P w K mg base g cdg A outer s H).env → PE (repX P w K mg base g cdg A outer s H) (.Call (.Name "step" p) [e] [] pos) (tLamCall F f 1 Nl ws te tb)) :
    ∃ tl tt ta tr tn tr2 tap, SndT C tt (dTest (dOp (dI fun i j => .bool (decide (i ≤ j))) (dLenO 4) (dVar 2))) ∧ Snd C ta (dIxO 4 (dNeg (dC (.int 1)))) ∧
      Snd C tr (dIxO 4 (dOp (dI fun i j => .int (i + j)) (dVar 6) (dOp (dIc (fun _ j => 0 < j) fun i j => .int (i % j)) (dOp (dI fun i j => .int (i - j)) (dVar 2) (dVar 6)) (dOp (dI fun i j => .int (i - j)) (dLenO 4) (dVar 6))))) ∧ Snd C tn (dLenO 4) ∧
      SndS C tap (dApp 4 (dVar 5)) ∧ Snd C tr2 (dIxO 4 (dVar 2)) ∧ tl = tLst (tCons (tVar 0) tNil) ∧
      PSs (repX P w K mg base g cdg A outer s H) (defBody s_repeated) (tSeq (tPar 3 4 (tCons (tSDisp (repX P w K mg base g cdg A outer s H) (tVar 0) (tC (.int 0))) (tCons tl tNil)))
        (tSeq (tWhile tt (tSeq (tAsg (tLamCall F f 1 Nl ws ta tb) (gName 5)) (tSeq (tIfS (tB (tSIn (repX P w K mg base g cdg A outer s H) (tVar 5) (tVar 3))) (tSeq (tAsg (tSGet (repX P w K mg base g cdg A outer s H) (tVar 3) (tVar 5)) (gName 6)) (tRet tr)) tNext)
          (tSeq (sSPut (repX P w K mg base g cdg A outer s H) (tVar 3) (tVar 5) tn) tap)))) (tRet tr2))) := by
  have nd := sc_repeated.nd
  have v : ∀ (i : Nat) (x : Str) (p : Pos), rN[i]? = some x → Vis (defScope s_repeated) x → (x == ("__debug__" : Str)) = false → (x == ("__classdict__" : Str)) = false → PE (repX P w K mg base g cdg A outer s H) (.Name x p) (tVar i) := fun i x p h1 h2 h3 h4 => pe_var h1 h2 h3 h4
  exact packT (qt_cmp op_le l_le (by decide) (by decide) (q_lenO 4 N.len) (q_var 2)) fun h1 s1 => pack (q_ixO 4 (q_neg q_int)) fun h2 s2 => pack (q_ixO 4 (q_add (q_var 6) (q_mod (q_sub (q_var 2) (q_var 6)) (q_sub (q_lenO 4 N.len) (q_var 6))))) fun h3 s3 => pack (q_lenO 4 N.len) fun h4 s4 =>
    packS (qs_app 4 (q_var 5)) fun h5 s5 => pack (q_ixO 4 (q_var 2)) fun h6 s6 =>
    ⟨_, _, _, _, _, _, _, s1, s2, s3, s4, s5, s6, rfl, pss_cons (ps_par rfl nd rfl rfl (by decide) rfl rfl (pa_cons (pe_sdisp hu (v 0 "first" _ rfl (.inl rfl) (by decide) (by decide)) pe_int) (pa_cons (pe_lst (pa_cons (v 0 "first" _ rfl (.inl rfl) (by decide) (by decide)) pa_nil rfl)) pa_nil rfl) rfl) (by rfl) (by rfl))
    (pss_cons (ps_while PassesOwn.never h1 (pss_cons (ps_set nd rfl (.inl rfl) (hl h2 rfl) (by rfl) (.inl rfl)) (pss_cons (ps_if (pt_cmp (pc_sin hu (v 5 "value" _ rfl (.inl rfl) (by decide) (by decide)) (v 3 "seen" _ rfl (.inl rfl) (by decide) (by decide))) (by rfl)) (pss_cons (ps_set nd rfl (.inl rfl) (pe_sget hu (v 3 "seen" _ rfl (.inl rfl) (by decide) (by decide)) (v 5 "value" _ rfl (.inl rfl) (by decide) (by decide)) (by exact fun _ _ => rfl)) (by rfl) (.inl rfl)) (pss_one (ps_ret h3))) pss_nil)
      (pss_cons (ps_sput hu (v 3 "seen" _ rfl (.inl rfl) (by decide) (by decide)) (v 5 "value" _ rfl (.inl rfl) (by decide) (by decide)) h4 (by rfl)) (pss_one h5)))))
    (pss_one (ps_ret h6)))⟩
end
end L3
namespace L3
open PySem L2
open PySem.Spec

theorem noW {T : List (Addr × Str)} {a : Addr} (w : (⟨T, none⟩ : C3).W a) : False := by
  obtain ⟨p, e, _⟩ := w
  cases e
/-- what the loop of repeated keeps -/
structure RI {α : Type} (P : Program) (w : World) (T : List (Addr × Str)) (N : Msk) (H0 : Hp) (enc : α → NK) (val : Nat → α) (n : Nat) (f d : Addr) (m : Nat) (am : Nat → Option Addr) (σ : L2.St) (c5 c6 : Cell) (H : Hp) : Prop where
  sa : SA ⟨T, none⟩ (plus N d) [(H0, noM)] am H σ [.dat (enc (val 0)).data, .val (.ref f), .dat (.int n), .val (.ref d), .own ((List.range (m + 1)).map fun i => (enc (val i)).data), c5, c6]
  seen : ∃ xs, H d = some (SeenO P w d xs) ∧ KeysIn (wo H (mkN (plus N d) am)) xs ∧ xs.map (fun x => (x.1, x.2.2)) = (List.range (m + 1)).map (fun i => (enc (val i), (i : Int))) ∧ ∃ h, seenB P w d xs h
section
variable {α : Type} {P : Program} {w : World} {T : List (Addr × Str)} {N : Msk} {H0 H H' : Hp} {enc : α → NK} {val : Nat → α} {n m : Nat} {f d : Addr} {am : Nat → Option Addr} {σ : L2.St} {c5 c6 : Cell}
theorem keysIn_sub {G G' : Hp} {xs : SXs} (h : KeysIn G xs) (s : Sub G G') : KeysIn G' xs := fun x hx => ⟨r3_sub s _ _ (h x hx).1, (h x hx).2⟩
theorem RI.go (I : RI P w T N H0 enc val n f d m am σ c5 c6 H) (a : Go ⟨T, none⟩ H H') (g : Glob ⟨T, none⟩ H') : RI P w T N H0 enc val n f d m am σ c5 c6 H' := by
  obtain ⟨xs, h1, h2, h3, h4⟩ := I.seen
  exact ⟨I.sa.go a g, xs, a.keep h1 noW seen_ne, keysIn_sub h2 (sub_go (fun b z => (noW z).elim) a), h3, h4⟩
theorem RI.set5 (I : RI P w T N H0 enc val n f d m am σ c5 c6 H) {v : V} {x : PyData} (r : R3 (wo H (mkN (plus N d) am)) v x) : RI P w T N H0 enc val n f d m am (σ.set 5 (some v)) (.dat x) c6 H :=
  ⟨I.sa.putD (i := 5) (show 5 < 7 by decide) r, I.seen⟩
theorem RI.set6 (I : RI P w T N H0 enc val n f d m am σ c5 c6 H) {v : V} {x : PyData} (r : R3 (wo H (mkN (plus N d) am)) v x) : RI P w T N H0 enc val n f d m am (σ.set 6 (some v)) c5 (.dat x) H :=
  ⟨I.sa.putD (i := 6) (show 6 < 7 by decide) r, I.seen⟩
/-- from the entry on -/
theorem RI.base (I : RI P w T N H0 enc val n f d m am σ c5 c6 H) : GoN noM H0 H := (I.sa.base (H0, noM) (by simp)).1
theorem RI.sub (I : RI P w T N H0 enc val n f d m am σ c5 c6 H) (hd : H0 d = none) : Sub (wo H0 N) (wo H (mkN (plus N d) am)) := fun b o e h => by
  obtain ⟨h1, h2⟩ := wo_some e
  have nn : ¬ mkN (plus N d) am b := fun z => by
    rcases z with (z | z) | ⟨i, z⟩
    · exact h1 z
    · rw [z, hd] at h2
      cases h2
    · rcases (I.sa.base (H0, noM) (by simp)).2.2 i b z with y | y
      · exact y
      · have y : H0 b = none := y
        rw [y] at h2
        cases h2
  rw [wo_not nn]
  exact I.base.keep h2 (fun z => z) h
theorem seenAt_map (k : NK) : ∀ (xs : SXs), seenAt xs k = ((xs.map (fun x => (x.1, x.2.2))).find? (fun y => decide (y.1 = k))).map (·.2)
  | [] => rfl
  | x :: xs => by
    by_cases e : x.1 = k
    · simp [seenAt, e]
    · have := seenAt_map k xs
      simp [seenAt, e] at this ⊢
      exact this
theorem seen_range {enc : α → NK} {val : Nat → α} {a : α} (inj : ∀ a b, enc a = enc b → a = b) (m : Nat) : (∃ j, j < m ∧ val j = a ∧ (((List.range m).map fun i => (enc (val i), (i : Int))).find? (fun y => decide (y.1 = enc a))).map (·.2) = some (j : Int)) ∨
    (((List.range m).map fun i => (enc (val i), (i : Int))).find? (fun y => decide (y.1 = enc a))).map (·.2) = none := by
  cases h : ((List.range m).map fun i => (enc (val i), (i : Int))).find? (fun y => decide (y.1 = enc a)) with
  | none => exact .inr rfl
  | some y =>
    have h1 := List.mem_of_find?_eq_some h
    have h2 := List.find?_some h
    obtain ⟨j, hj, rfl⟩ := List.mem_map.mp h1
    exact .inl ⟨j, List.mem_range.mp hj, inj _ _ (by simpa using h2), rfl⟩
/-- values that come back come back for ever -/
theorem val_back {stp : α → α} (hs : ∀ i, val (i + 1) = stp (val i)) {j p : Nat} (hp : val (j + p) = val j) (h0 : 0 < p) : ∀ q, val (j + q) = val (j + q % p) := by
  have shift : ∀ i a b, val a = val b → val (a + i) = val (b + i) := fun i a b h => by
    induction i with
    | zero => exact h
    | succ i ih => rw [← Nat.add_assoc, ← Nat.add_assoc, hs, hs, ih]
  intro q
  induction q using Nat.strongRecOn with
  | _ q ih =>
    by_cases h : q < p
    · rw [Nat.mod_eq_of_lt h]
    · have e1 := shift (q - p) _ _ hp
      have e2 := ih (q - p) (by omega)
      have e3 : j + p + (q - p) = j + q := by omega
      rw [e3] at e1
      rw [e1, e2, ← Nat.mod_eq_sub_mod (by omega)]
theorem at_range {g : Nat → PyData} {m i : Nat} (h : i < m) : atI ((List.range m).map g) (i : Nat) = some (g i) := atI_nat (by rw [List.getElem?_map, List.getElem?_range h]; rfl)
theorem at_last {g : Nat → PyData} {m : Nat} : atI ((List.range (m + 1)).map g) (-1) = some (g m) := by
  have hl : ((List.range (m + 1)).map g).length = m + 1 := by simp
  unfold atI ixN
  rw [hl]
  have e : (-1 + ((m : Int) + 1)).toNat = m := by omega
  have e1 : (1 : Int) ≤ (m : Int) + 1 := by omega
  simp [e, e1]
/-- an object that is masked, and not tracked at the bases, is written -/
theorem SA.wm {C : C3} {M0 : Msk} {B : Bs} {ρ : Env3} {φ ψ : Heap → Prop} (s : SA C M0 B am H σ ρ) (hM : M0 d) (hW : ¬ C.W d) (hd : H d = some (.ext φ)) (hB : ∀ p ∈ B, p.1 d = none) (hc : ∀ q, LamX.CodeO d q ≠ .ext φ) : SA C M0 B am (upd H d (.ext ψ)) σ ρ := by
  have sub : Sub (wo H (mkN M0 am)) (wo (upd H d (.ext ψ)) (mkN M0 am)) := fun b o e _ => by
    obtain ⟨h1, h2⟩ := wo_some e
    have ne : b ≠ d := fun z => h1 (by rw [z]; exact .inl hM)
    rw [wo_not h1, upd_ne ne]
    exact h2
  have nam : ∀ {i b}, am i = some b → b ≠ d := fun {i b} e z => s.out i b e (by rw [z]; exact hM)
  refine ⟨⟨⟨s.env.mok.sub, fun b h => ?_⟩, ⟨fun p hp => ?_, fun q hq => ?_⟩, s.env.len, fun j k ek => ?_, fun j b eb => ?_, s.env.inj⟩, s.out, fun q hq => ?_⟩
  · by_cases z : b = d
    · exact ⟨_, by rw [z]; exact upd_same, by intro _ z; cases z⟩
    · rw [upd_ne z]
      exact s.env.mok.dom b h
  · obtain ⟨ps, h1, h2, h3⟩ := s.env.glob.tabs p hp
    refine ⟨ps, by rw [upd_ne (fun z => by rw [z, hd] at h1; cases h1)]; exact h1, h2, fun pos cv hcv => ?_⟩
    obtain ⟨c, e1, e2⟩ := h3 pos cv hcv
    exact ⟨c, e1, by rw [upd_ne (fun z => by rw [z, hd] at e2; exact hc _ (Option.some.inj e2).symm)]; exact e2⟩
  · obtain ⟨cs, m, d', z, ne, k1, k2⟩ := s.env.glob.deck q hq
    exact ⟨cs, m, d', z, ne, by rw [upd_ne fun z => hW ⟨q, hq, .inl z.symm⟩]; exact k1, by rw [upd_ne fun z => hW ⟨q, hq, .inr z.symm⟩]; exact k2⟩
  · have k0 := s.env.sl j k ek
    cases k with
    | un => exact k0
    | dat x =>
      obtain ⟨v, h1, h2⟩ := k0
      exact ⟨v, h1, r3_sub sub _ _ h2⟩
    | own ds =>
      obtain ⟨b, us, h1, h2, h3, h4⟩ := k0
      exact ⟨b, us, h1, h2, by rw [upd_ne (nam h1)]; exact h3, r3s_sub sub _ _ h4⟩
    | own2 ds es =>
      obtain ⟨t, b, c, vs, us, h1, h2, h3, h4, h5, h6, h7, h8⟩ := k0
      exact ⟨t, b, c, vs, us, h1, h2, h3, sub _ _ h4 (by intro _ z; cases z), by rw [upd_ne (nam h1)]; exact h5, by rw [upd_ne (nam h2)]; exact h6, r3s_sub sub _ _ h7, r3s_sub sub _ _ h8⟩
    | val v => exact k0
  · obtain ⟨k1, k2, ws, k3⟩ := s.env.amN j b eb
    exact ⟨k1, k2, ws, by rw [upd_ne (nam eb)]; exact k3⟩
  · obtain ⟨k1, k2, k3⟩ := s.base q hq
    refine ⟨fun b o e n => ?_, k2, k3⟩
    rw [upd_ne (fun z => by rw [z, hB q hq] at e; cases e)]
    exact k1 b o e n
end
end L3
namespace L3
open PySem L2
open PySem.Spec
section
variable {α : Type} {X : Cx} {T : List (Addr × Str)} {N : Msk} {H0 H H' : Hp} {enc : α → NK} {val : Nat → α} {stp : α → α} {n m : Nat} {f d : Addr} {am : Nat → Option Addr} {σ : L2.St} {c5 c6 : Cell} {Q : VK}
/-- the slots after the first statement -/
theorem RI.first {l : Addr} {v0 : V} {a0 : Addr} (hv : v0 = .ref a0) (mk : Mok ⟨T, none⟩ N H0) (gl : Glob ⟨T, none⟩ H0) (r0 : R3 (wo H0 N) v0 (enc (val 0)).data) (hdep : (enc (val 0)).depth ≤ 8) (hd : H0 d = none) (hl : upd H0 d (SeenO X.prog X.w d [(enc (val 0), a0, 0)]) l = none) (hh : ∃ h, seenB X.prog X.w d [(enc (val 0), a0, 0)] h) :
    RI X.prog X.w T N H0 enc val n f d 0 (fun j => if j = 8 then some l else none) (((L2.start rN [v0, .ref f, .int n]).set 3 (some (.ref d))).set 4 (some (.ref l))) .un .un (upd (upd H0 d (SeenO X.prog X.w d [(enc (val 0), a0, 0)])) l (.lst [v0])) := by
  have ldn : d ≠ l := ne_of_none upd_same hl
  have hl0 : H0 l = none := by rwa [upd_ne (Ne.symm ldn)] at hl
  have nNd : ¬ N d := mk.fresh hd
  have nNl : ¬ N l := mk.fresh hl0
  have keep : ∀ b o, H0 b = some o → upd (upd H0 d (SeenO X.prog X.w d [(enc (val 0), a0, 0)])) l (.lst [v0]) b = some o := fun b o e => by rw [upd_ne (ne_of_none e hl0), upd_ne (ne_of_none e hd)]; exact e
  have atd : upd (upd H0 d (SeenO X.prog X.w d [(enc (val 0), a0, 0)])) l (.lst [v0]) d = some (SeenO X.prog X.w d [(enc (val 0), a0, 0)]) := by rw [upd_ne ldn, upd_same]
  have am1 : ∀ {i a}, (fun j => if j = 8 then some l else none) i = some a → i = 8 ∧ a = l := fun {i a} e => by
    by_cases z : i = 8
    · simp [z] at e
      exact ⟨z, e.symm⟩
    · simp [z] at e
  have sub : Sub (wo H0 N) (wo (upd (upd H0 d (SeenO X.prog X.w d [(enc (val 0), a0, 0)])) l (.lst [v0])) (mkN (plus N d) fun j => if j = 8 then some l else none)) := fun b o e _ => by
    obtain ⟨h1, h2⟩ := wo_some e
    have nn : ¬ mkN (plus N d) (fun j => if j = 8 then some l else none) b := fun z => by
      rcases z with (z | z) | ⟨i, z⟩
      · exact h1 z
      · rw [z, hd] at h2
        cases h2
      · obtain ⟨_, rfl⟩ := am1 z
        rw [hl0] at h2
        cases h2
    rw [wo_not nn]
    exact keep b o h2
  refine ⟨⟨⟨⟨fun a w => (noW w).elim, fun a h => ?_⟩, (gl.laid hd).laid hl, rfl, fun i c e => ?_, fun i a e => ?_, fun i j a e1 e2 => by rw [(am1 e1).1, (am1 e2).1]⟩, fun i a e => ?_, fun p hp => ?_⟩, [(enc (val 0), a0, 0)], atd, fun x hx => ?_, by simp, hh⟩
  · rcases h with (h | h) | ⟨i, h⟩
    · obtain ⟨o, h1, h2⟩ := mk.dom a h
      exact ⟨o, keep a o h1, h2⟩
    · exact ⟨_, by rw [h]; exact atd, seen_ne⟩
    · obtain ⟨_, rfl⟩ := am1 h
      exact ⟨_, upd_same, by intro _ z; cases z⟩
  · match i, e with
    | 0, e => cases e; exact ⟨v0, rfl, r3_sub sub _ _ r0⟩
    | 1, e => cases e; exact rfl
    | 2, e => cases e; exact ⟨_, rfl, .int _⟩
    | 3, e => cases e; exact rfl
    | 4, e => cases e; exact ⟨l, [v0], rfl, rfl, upd_same, .cons (r3_sub sub _ _ r0) .nil⟩
    | 5, e => cases e; trivial
    | 6, e => cases e; trivial
    | i + 7, e => simp at e
  · obtain ⟨rfl, rfl⟩ := am1 e
    exact ⟨.inr ⟨8, rfl⟩, fun w => noW w, [v0], upd_same⟩
  · obtain ⟨rfl, rfl⟩ := am1 e
    exact fun z => z.elim nNl fun z => ldn z.symm
  · have ep : p = (H0, noM) := by simpa using hp
    subst ep
    exact ⟨fun b o e _ => .inl (keep b o e), fun a w => (noW w).elim, fun i a e => .inr (by rw [(am1 e).2]; exact hl0)⟩
  · have ex : x = (enc (val 0), a0, 0) := by simpa using hx
    subst ex
    subst hv
    exact ⟨r3_sub sub _ _ r0, hdep⟩
variable {tt : TT} {ta tr tn tr2 tb : TE} {tap : TS}
/-- what the lambda keeps, turn by turn -/
def LamOk (T : List (Addr × Str)) (N : Msk) (H0 : Hp) (enc : α → NK) (val : Nat → α) (n : Nat) (Nl : List Str) (ws : List (Option V)) (tb : TE) : Prop := ∀ i, i < n → ∀ (N' : Msk) (H' : Hp) (v : V) (Q : VK), Mok ⟨T, none⟩ N' H' → Glob ⟨T, none⟩ H' → Sub (wo H0 N) (wo H' N') → R3 (wo H' N') v (enc (val i)).data →
  (∀ v2 H2, Go ⟨T, none⟩ H' H2 → Glob ⟨T, none⟩ H2 → R3 (wo H2 N') v2 (enc (val (i + 1))).data → Q v2 H2) → tb (NdefX.startF Nl [v] ws) H' Q
theorem rep_read {F : LF} {Nl : List Str} {ws : List (Option V)} {v0 : V} (inj : ∀ a b, enc a = enc b → a = b) (tup : ∀ a, ∃ ks, enc a = .tup ks) (dep : ∀ a, (enc a).depth ≤ 8) (hval : ∀ i, val (i + 1) = stp (val i)) (hn : n ≤ 1000)
    (s1 : SndT ⟨T, none⟩ tt (dTest (dOp (dI fun i j => .bool (decide (i ≤ j))) (dLenO 4) (dVar 2)))) (s2 : Snd ⟨T, none⟩ ta (dIxO 4 (dNeg (dC (.int 1)))))
    (s3 : Snd ⟨T, none⟩ tr (dIxO 4 (dOp (dI fun i j => .int (i + j)) (dVar 6) (dOp (dIc (fun _ j => 0 < j) fun i j => .int (i % j)) (dOp (dI fun i j => .int (i - j)) (dVar 2) (dVar 6)) (dOp (dI fun i j => .int (i - j)) (dLenO 4) (dVar 6))))))
    (s4 : Snd ⟨T, none⟩ tn (dLenO 4)) (s5 : SndS ⟨T, none⟩ tap (dApp 4 (dVar 5))) (s6 : Snd ⟨T, none⟩ tr2 (dIxO 4 (dVar 2)))
    (mk : Mok ⟨T, none⟩ N H0) (gl : Glob ⟨T, none⟩ H0) (r0 : R3 (wo H0 N) v0 (enc (val 0)).data) (hF : H0 F.c = some (LamX.CodeO F.c F.qual)) (hl : LamOk T N H0 enc val n Nl ws tb)
    (hQ : ∀ v' H', Go ⟨T, none⟩ H0 H' → Glob ⟨T, none⟩ H' → R3 (wo H' N) v' (enc (val n)).data → Q v' H') :
    (tSeq (tPar 3 4 (tCons (tSDisp X (tVar 0) (tC (.int 0))) (tCons (tLst (tCons (tVar 0) tNil)) tNil)))
        (tSeq (tWhile tt (tSeq (tAsg (tLamCall F f 1 Nl ws ta tb) (gName 5)) (tSeq (tIfS (tB (tSIn X (tVar 5) (tVar 3))) (tSeq (tAsg (tSGet X (tVar 3) (tVar 5)) (gName 6)) (tRet tr)) tNext)
          (tSeq (sSPut X (tVar 3) (tVar 5) tn) tap)))) (tRet tr2))) { nx := fun _ H' => Q .non H', rt := Q } (L2.start rN [v0, .ref f, .int n]) H0 := by
  have ref_of : ∀ {G : Hp} {v : V} {a : α}, R3 G v (enc a).data → ∃ b, v = .ref b := fun {G v a} h => by
    obtain ⟨ks, e⟩ := tup a
    rw [e] at h
    unfold NestedKey.data at h
    cases h
    exact ⟨_, rfl⟩
  obtain ⟨a0, hv⟩ := ref_of r0
  subst hv
  have fin : ∀ {m : Nat} {am : Nat → Option Addr} {σ : L2.St} {c5 c6 : Cell} {H H' : Hp} {d : Addr} {v : V} {x : PyData}, RI X.prog X.w T N H0 enc val n f d m am σ c5 c6 H → x = (enc (val n)).data → Go ⟨T, none⟩ H H' → Glob ⟨T, none⟩ H' → R3 (wo H' (mkN (plus N d) am)) v x → Q v H' := fun {m am σ c5 c6 H H' d v x} I e a g r => by
    subst e
    exact hQ v H' ((I.base.mono fun _ z => z.elim).trans a) g (r3_sub (sub_less fun b z => .inl (.inl z)) _ _ r)
  intro d hd
  refine ⟨.ref a0, rfl, upd_same, a0, enc (val 0), 0, rfl, rfl, ?_, dep _, fun hs hh => ?_⟩
  · exact r3_sub (fun b o e _ => by
      obtain ⟨_, h2⟩ := wo_some e
      rw [upd_ne (ne_of_none h2 hd)]
      exact h2) _ _ r0
  rw [upd_upd]
  refine ⟨.ref a0, rfl, by show 1 ≤ sizeLine; decide, fun l hln => ⟨.ref d, .ref l, rfl, ?_⟩⟩
  have I0 := RI.first (X := X) (n := n) (f := f) rfl mk gl r0 (dep _) hd hln hh
  refine ⟨fun k σ H => ∃ m am c5 c6, m ≤ n ∧ k = n - m ∧ RI X.prog X.w T N H0 enc val n f d m am σ c5 c6 H, ⟨n - 0, 0, _, _, _, Nat.zero_le _, rfl, I0⟩, fun k σ H hW => ?_⟩
  obtain ⟨m, am, c5, c6, hm, rfl, I⟩ := hW
  refine s1 _ am H σ _ (fun b => b = decide (((m + 1 : Nat) : Int) ≤ (n : Int))) _ I.sa.env ⟨_, rfl, _, rfl, _, _, rfl, rfl, _, rfl, ?_⟩ fun b H1 hb a1 g1 => ?_
  · simp
  subst hb
  have I1 := I.go a1 g1
  by_cases hlt : m + 1 ≤ n
  · refine iteB (decide_eq_true (by omega)) ⟨fun σ' H' => ∃ m' am c5 c6, m' = m + 1 ∧ RI X.prog X.w T N H0 enc val n f d m' am σ' c5 c6 H', fun σ' H' ⟨m', am', c5', c6', e, I'⟩ => ⟨n - m', by omega, m', am', c5', c6', by omega, rfl, I'⟩, ?_⟩
    refine ⟨I1.sa.env.sl 1 _ rfl, s2 _ am H1 σ _ (fun x => x = (enc (val m)).data) _ I1.sa.env ⟨_, rfl, _, rfl, _, _, rfl, at_last, rfl⟩ fun v H2 x hx a2 g2 r2 => ?_⟩
    subst hx
    have I2 := I1.go a2 g2
    refine ⟨I2.base.keep hF (fun z => z) LamX.codeO_ne, hl m hlt _ H2 v _ I2.sa.env.mok g2 (I2.sub hd) r2 fun v3 H3 a3 g3 r3 => ?_⟩
    have I3 := (I2.go a3 g3).set5 r3
    obtain ⟨b3, hv3⟩ := ref_of r3
    subst hv3
    obtain ⟨xs, k1, k2, k3, k4⟩ := I3.seen
    have sg : SG X H3 (.ref d) (.ref b3) xs (enc (val (m + 1))) := ⟨d, b3, rfl, rfl, hs, k1, keysIn_sub k2 sub_all, r3_sub sub_all _ _ r3, dep _⟩
    have σ3 : (σ.set 5 (some (.ref b3)))[3]? = some (some (.ref d)) := I3.sa.env.sl 3 _ rfl
    have σ5 : (σ.set 5 (some (.ref b3)))[5]? = some (some (.ref b3)) := by
      rw [List.getElem?_set_self (by have := I.sa.env.len; rw [← this]; show 5 < 7; decide)]
    have hsa : seenAt xs (enc (val (m + 1))) = ((xs.map (fun x => (x.1, x.2.2))).find? (fun y => decide (y.1 = enc (val (m + 1))))).map (·.2) := seenAt_map _ _
    rw [k3] at hsa
    refine ⟨_, σ5, _, σ3, xs, _, sg, _, rfl, ?_⟩
    rcases seen_range (val := val) (a := val (m + 1)) inj (m + 1) with ⟨j, hj, ej, hz⟩ | hz
    · rw [hz] at hsa
      rw [hsa]
      refine iteT ⟨_, σ3, _, σ5, xs, _, _, sg, hsa, ?_⟩
      have I4 := I3.set6 (v := .int j) (x := .int j) (.int _)
      have hidx : j + (n - j) % (m + 1 - j) < m + 1 := by
        have := Nat.mod_lt (n - j) (show 0 < m + 1 - j by omega)
        omega
      refine s3 _ am H3 _ _ (fun x => x = (enc (val n)).data) _ I4.sa.env ⟨_, rfl, _, rfl, _, rfl, _, rfl, _, _, rfl, rfl, _, rfl, _, rfl, _, _, rfl, rfl, _, _, rfl, rfl, ?_, _, _, rfl, rfl, _, _, rfl, ?_, rfl⟩ fun v H4 x hx a4 g4 r4 => fin I4 hx a4 g4 r4
      · simp; omega
      · have e1 : ((j : Int) + ((n : Int) - j) % ((((List.range (m + 1)).map fun i => (enc (val i)).data).length : Nat) - (j : Int))) = ((j + (n - j) % (m + 1 - j) : Nat) : Int) := by
          rw [List.length_map, List.length_range]
          have e2 : ((n : Int) - j) = ((n - j : Nat) : Int) := by omega
          have e3 : (((m + 1 : Nat) : Int) - j) = ((m + 1 - j : Nat) : Int) := by omega
          rw [e2, e3]
          simp
        rw [e1, at_range hidx]
        have e4 := val_back hval (j := j) (p := m + 1 - j) (by rw [show j + (m + 1 - j) = m + 1 by omega]; exact ej.symm) (by omega) (n - j)
        rw [show j + (n - j) = n by omega] at e4
        rw [← e4]
    · rw [hz] at hsa
      rw [hsa]
      refine iteF ?_
      refine s4 _ am H3 _ _ (fun x => x = .int ((m + 1 : Nat) : Int)) _ I3.sa.env ⟨_, rfl, by simp⟩ fun v4 H4 x hx a4 g4 r4 => ?_
      subst hx
      cases r4
      have I4 := I3.go a4 g4
      obtain ⟨xs4, q1, q2, q3, q4⟩ := I4.seen
      have e4 : xs4.map (fun x => (x.1, x.2.2)) = xs.map (fun x => (x.1, x.2.2)) := q3.trans k3.symm
      have hsa4 : seenAt xs4 (enc (val (m + 1))) = none := by rw [seenAt_map, e4, ← seenAt_map]; exact hsa
      have r34 := r3_sub (sub_go (N := mkN (plus N d) am) (fun b z => (noW z).elim) a4) _ _ r3
      have sg4 : SG X H4 (.ref d) (.ref b3) xs4 (enc (val (m + 1))) := ⟨d, b3, rfl, rfl, hs, q1, keysIn_sub q2 sub_all, r3_sub sub_all _ _ r34, dep _⟩
      have hlen : xs4.length = m + 1 := by
        have := congrArg List.length q3
        simpa using this
      refine ⟨_, σ3, _, σ5, d, b3, xs4, _, _, rfl, rfl, rfl, sg4, hsa4, by rw [hlen, sizeLine_eq]; omega, fun hex => ?_⟩
      have w1 := I4.sa.wm (φ := seenB X.prog X.w d xs4) (ψ := seenB X.prog X.w d (xs4 ++ [(enc (val (m + 1)), b3, ((m + 1 : Nat) : Int))])) (.inr rfl) (fun z => noW z) q1 (fun p hp => by
        have ep : p = (H0, noM) := by simpa using hp
        rw [ep]
        exact hd) (fun q z => seen_code q4 (c := d) (q := q) z.symm)
      have wk : KeysIn (wo (upd H4 d (SeenO X.prog X.w d (xs4 ++ [(enc (val (m + 1)), b3, ((m + 1 : Nat) : Int))]))) (mkN (plus N d) am)) (xs4 ++ [(enc (val (m + 1)), b3, ((m + 1 : Nat) : Int))]) := by
        have sub : Sub (wo H4 (mkN (plus N d) am)) (wo (upd H4 d (SeenO X.prog X.w d (xs4 ++ [(enc (val (m + 1)), b3, ((m + 1 : Nat) : Int))]))) (mkN (plus N d) am)) := fun b o e _ => by
          obtain ⟨h1, h2⟩ := wo_some e
          rw [wo_not h1, upd_ne (fun z => h1 (by rw [z]; exact .inl (.inr rfl)))]
          exact h2
        intro x hx
        rcases List.mem_append.mp hx with hx | hx
        · exact keysIn_sub q2 sub x hx
        · have ex : x = (enc (val (m + 1)), b3, ((m + 1 : Nat) : Int)) := by simpa using hx
          subst ex
          exact ⟨r3_sub sub _ _ r34, dep _⟩
      refine s5 (plus N d) [(upd H4 d (SeenO X.prog X.w d (xs4 ++ [(enc (val (m + 1)), b3, ((m + 1 : Nat) : Int))])), fun a => ∃ i, am i = some a), (H0, noM)] (upd H4 d (SeenO X.prog X.w d (xs4 ++ [(enc (val (m + 1)), b3, ((m + 1 : Nat) : Int))]))) _ _ { nx := fun ρ' => ρ' = [.dat (enc (val 0)).data, .val (.ref f), .dat (.int n), .val (.ref d), .own ((List.range (m + 1 + 1)).map fun i => (enc (val i)).data), .dat (enc (val (m + 1))).data, c6], rt := fun _ => False } _ (fun a w => (noW w).elim) ⟨am, w1.env, w1.out, fun p hp => ?_⟩ ⟨fun σ5 H5 ρ5 hs5 hρ => ?_, (fun _ _ _ (z : False) => z.elim), (fun _ _ _ _ (z : False) => z.elim), (fun _ _ _ _ (z : False) => z.elim)⟩ ⟨_, rfl, by simp; omega, _, rfl, ?_⟩
      · rcases List.mem_cons.mp hp with e | hp
        · subst e
          exact ⟨GoN.refl, fun a w => (noW w).elim, fun i a e => .inl ⟨i, e⟩⟩
        · exact w1.base p hp
      · subst hρ
        obtain ⟨am', s'⟩ := hs5
        obtain ⟨b1, _, b3'⟩ := s'.base (upd H4 d (SeenO X.prog X.w d (xs4 ++ [(enc (val (m + 1)), b3, ((m + 1 : Nat) : Int))])), fun a => ∃ i, am i = some a) (List.mem_cons_self)
        have nd : ¬ ∃ i, am i = some d := fun ⟨i, z⟩ => w1.out i d z (.inr rfl)
        have kd := b1.keep (b := d) upd_same nd seen_ne
        refine ⟨m + 1, am', _, _, rfl, ⟨s'.env, s'.out, fun p hp => s'.base p (List.mem_cons_of_mem _ hp)⟩, _, kd, keysIn_sub wk fun b o e h => ?_, ?_, hex⟩
        · obtain ⟨h1, h2⟩ := wo_some e
          have nn : ¬ mkN (plus N d) am' b := fun z => by
            rcases z with z | ⟨i, z⟩
            · exact h1 (.inl z)
            · rcases b3' i b z with y | y
              · exact h1 (.inr y)
              · have y : upd H4 d (SeenO X.prog X.w d (xs4 ++ [(enc (val (m + 1)), b3, ((m + 1 : Nat) : Int))])) b = none := y
                rw [h2] at y
                cases y
          rw [wo_not nn]
          exact b1.keep h2 (fun z => h1 (.inr z)) h
        · rw [List.map_append, q3, List.range_succ (n := m + 1), List.map_append]
          rfl
      · show _ = _
        rw [List.range_succ (n := m + 1), List.map_append]
        rfl
  · refine iteN (decide_eq_false (by omega)) ?_
    have hmn : m = n := by omega
    subst hmn
    refine s6 _ am H1 σ _ (fun x => x = (enc (val m)).data) _ I1.sa.env ⟨_, rfl, _, rfl, _, _, rfl, at_range (Nat.lt_succ_self _), rfl⟩ fun v H2 x hx a2 g2 r2 => fin I1 hx a2 g2 r2
end
end L3
namespace L3
open PySem L2
open PySem.Spec
open LamX (TabB Tabs CodeO codeO_ne)
open NdefX (CellsAt NScope Caps slotAt)
/-- what repeated asks, and what it gives -/
def RepNeed (T : List (Addr × Str)) (Nl : List Str) (ws : List (Option V)) (tb : TE) (v1 v3 : V) (H : Hp) (Q : VK) : Prop := ∃ (α : Type) (enc : α → NK) (val : Nat → α) (stp : α → α) (n : Nat) (N : Msk), (∀ a b, enc a = enc b → a = b) ∧ (∀ a, ∃ ks, enc a = .tup ks) ∧ (∀ a, (enc a).depth ≤ 8) ∧ (∀ i, val (i + 1) = stp (val i)) ∧ n ≤ 1000 ∧
  v3 = .int n ∧ Mok ⟨T, none⟩ N H ∧ Glob ⟨T, none⟩ H ∧ R3 (wo H N) v1 (enc (val 0)).data ∧ LamOk T N H enc val n Nl ws tb ∧ ∀ v' H', Go ⟨T, none⟩ H H' → Glob ⟨T, none⟩ H' → R3 (wo H' N) v' (enc (val n)).data → Q v' H'
def tRepC (T : List (Addr × Str)) (q : Str) (Nl : List Str) (js : List Nat) (t1 t3 tb : TE) : TE := fun σ H Q => t1 σ H fun v1 H1 => Tabs T H1 ∧ ∀ (c' : Addr) (H2 : Hp), GoN noM H1 H2 → Tabs T H2 → H2 c' = some (CodeO c' q) → t3 σ H2 fun v3 H3 => H3 c' = some (CodeO c' q) ∧ RepNeed T Nl (js.map (slotAt σ)) tb v1 v3 H3 Q
section
variable {X : Cx} {T : List (Addr × Str)} {c P0 : Addr} {params : Arguments} {body e1 e3 : Expr} {scope : Scope} {lpos pos p : Pos} {Nl fr : List Str} {y : Str} {js : List Nat} {t1 t3 tb : TE} {g : Addr} {fdr : FuncData}
theorem cell_nofs {pins : List (Addr × Obj)} {σ : L2.St} {H : Hp} {s : Shared} (I : Inv X pins σ H s) (hfn : ∀ x, X.fn x = true) {x : Str} {a : Addr} (h : X.env.cells.lookup x = some a) : a ∉ frs X.stack := fun z => by
  rcases List.mem_cons.mp (I.stkSub _ z) with e | e
  · obtain ⟨v, o, h1, h2⟩ := I.cell x a h
    obtain ⟨m, ⟨o', es, ep, h3, h4, _⟩, _⟩ := I.loc
    rw [← e, h1] at h3
    cases h3
    rw [h2] at h4
    cases h4
  · have h1 := I.ok.cab x a (hfn x) h
    obtain ⟨_, o, h2, _⟩ := I.ok.funs.mem e
    exact Nat.lt_irrefl _ (Nat.lt_of_lt_of_le (Heap.lt_size h2) h1)
theorem pe_rep (F : Fun X.K "repeated" "repeated" s_repeated g fdr) (Nm : Nms X.mg) (hm : X.mg "repeated" = some (.ref g)) (hg : Gl X "repeated") (TB : TabB X.base X.mg c P0) (hcode : X.env.code = .ref c) (hmT : (P0, X.env.qual ++ "<lambda>") ∈ T) (hu : ∀ p ∈ T, p.1 = P0 → p.2 = X.env.qual ++ "<lambda>") (hdef : defaultsOf params X.env = ([], []))
    (S : NScope Nl [y] fr scope) (hfree : ∀ y ∈ scope.names, y.2 = .free → X.env.scope.names.lookup y.1 = some .cell ∨ X.env.scope.names.lookup y.1 = some .free) (hfr : ∀ y ∈ fr, (y, NameKind.free) ∈ scope.names) (hjs : js.map (fun j => X.N[j]?) = fr.map some) (hfn : ∀ x, X.fn x = true)
    (hb : ∀ (cl : List (Str × Addr)) (c' : Addr) (pm ctv : Value) (us : List Value), us.length = [y].length → bindArgs (LF.fd ⟨X.env.qual ++ "<lambda>", params, body, scope, cl, c'⟩ pm ctv) ⟨us, []⟩ = pure ([y].zip us)) (hr : Room 10 X.A)
    (hbody : ∀ (cl : List (Str × Addr)) (c' f : Addr) (A : Around) (outer : List Env) (s : Shared) (H : Hp), Room 8 (A.deeper (NdefX.envF (LF.nf ⟨X.env.qual ++ "<lambda>", params, body, scope, cl, c'⟩) f s.heap.objs.size)) → PE (NdefX.ncx CX0 X.prog X.w X.K X.mg X.base Nl (LF.nf ⟨X.env.qual ++ "<lambda>", params, body, scope, cl, c'⟩) f A outer s H E0) body tb)
    (h1 : PE X e1 t1) (h3 : PE X e3 t3) (hs1 : starEach [e1, .Lambda params body scope lpos, e3] X.env = (false, eval e1 X.env) :: starEach [.Lambda params body scope lpos, e3] X.env := by rfl)
    (hs2 : starEach [.Lambda params body scope lpos, e3] X.env = (false, eval (.Lambda params body scope lpos) X.env) :: starEach [e3] X.env := by rfl) (hs3 : starEach [e3] X.env = (false, eval e3 X.env) :: starEach [] X.env := by rfl) (hpl : (backTo pos (starEach [.Lambda params body scope lpos, e3] X.env)).any (·.1) = false := by rfl) :
    PE X (.Call (.Name "repeated" p) [e1, .Lambda params body scope lpos, e3] [] pos) (tRepC T (X.env.qual ++ "<lambda>") Nl js t1 t3 tb) := by
  refine ⟨fun pins s σ H Q I h => ?_⟩
  have hk := F.kp
  obtain ⟨oc, od, kV, doc, pm, an, cdv, ct, osl, hfd, lk, hcd⟩ := F.ex
  subst hfd
  refine wpAny_Call_Name_kw (ld_glob I hg hm ?_ (by decide))
  refine PySem.W.callWith_K (h₀ := X.base) I.ok.mod.kin hk ?_ hs1 hpl
  rw [hs1]
  show wpAny _ _ (spliced ((false, eval e1 X.env) :: backTo pos (starEach [.Lambda params body scope lpos, e3] X.env))) _ _ s
  refine Calls.spliced_cons (thn (h1.run pins s σ H _ I h) fun u1 s1 ⟨v1, H1, I1, r1, hT1, q1⟩ => ?_)
  rw [hs2]
  have hhas : ∀ y ∈ scope.names, y.2 = .free → ∃ c, X.env.cells.lookup y.1 = some c := fun y hy e => (hfree y hy e).elim (fun z => I1.ok.has _ (.inl z)) fun z => I1.ok.has _ (.inr z)
  show wpAny _ _ (spliced ((false, eval (.Lambda params body scope lpos) X.env) :: backTo pos (starEach [e3] X.env))) _ _ s1
  refine Calls.spliced_cons (lam_mk I1 TB hcode hmT hu hT1 hdef hhas fun f c' H2 s2 I2 g2 hT2 hat hf2 hfs hco => ?_)
  obtain ⟨pm2, ctv, hof⟩ := hat
  have nloc : f ≠ X.env.locals := fun z => by
    obtain ⟨m, ⟨o', es, ep, k3, k4, _⟩, _⟩ := I2.loc
    rw [← z, hof] at k3
    cases k3
    cases k4
  have nfs : f ∉ X.fs := fun z => hfs (by
    rcases I2.ok.stk with e | ⟨e, _⟩
    · rw [e]
      exact z
    · rw [e]
      exact List.mem_filterMap.mpr (by
        obtain ⟨en, he, hf⟩ := List.mem_filterMap.mp z
        exact ⟨en, List.mem_cons_of_mem _ he, hf⟩))
  have I2p : Inv X ((f, PySem.W.kla_obj "<lambda>" (X.env.qual ++ "<lambda>") params body scope (cloFrom X.env.cells scope.names []) pm2 c' ctv) :: pins) σ H2 s2 := I2.pins_of fun q hq => by
    rcases List.mem_cons.mp hq with e | hq
    · subst e
      exact ⟨hof, hf2, nloc, nfs, fun v z => by cases z⟩
    · exact I2.pin q (List.mem_append_right _ hq)
  rw [hs3]
  show wpAny _ _ (spliced ((false, eval e3 X.env) :: backTo pos (starEach [] X.env))) _ _ s2
  refine Calls.spliced_cons (thn (h3.run _ s2 σ H2 _ I2p (q1 c' H2 g2 hT2 hco)) fun u3 s3 ⟨v3, H3, I3, r3, hc3, need⟩ => Calls.spliced_nil ⟨I3.kIn, ?_⟩)
  have hpin := I3.pin (f, PySem.W.kla_obj "<lambda>" (X.env.qual ++ "<lambda>") params body scope (cloFrom X.env.cells scope.names []) pm2 c' ctv) (List.mem_append_right _ List.mem_cons_self)
  have I3w : Inv X pins σ H3 s3 := I3.pins_of fun q hq => I3.pin q (List.mem_append_right _ (List.mem_cons_of_mem _ hq))
  obtain ⟨α, enc, val, stp, n, N, inj, tup, dep, hval, hn, rfl, mk, gl, r0, hl, hQ⟩ := need
  have C : CellsAt (cloFrom X.env.cells scope.names []) fr (js.map (slotAt σ)) s3.heap H3 := NdefX.cells_of I3 (Caps.made I3.ok hfree hfr hjs)
  have nfC : ∀ y a, (cloFrom X.env.cells scope.names []).lookup y = some a → a ∉ frs X.stack := fun y a e => cell_nofs I3 hfn (NdefX.clo_cm hhas e)
  have rc : codeAny (model X.prog X.w) X.A (.call (.ref g) ⟨[u1, .ref f, u3], []⟩) (CR CX0 X.stack X.prog X.w H3 s3 Q E0) s3 := by
    refine LamX.run_ofS (N := rN) (ps := ["first", "step", "n"]) (us := [u1, .ref f, u3]) (vs := [v1, .ref f, .int n]) lk hcd sc_repeated hr I3.env0 ?_ (.cons r1 (.cons rfl (.cons r3 .nil))) rfl fun hr' => ?_
    · exact (Binds.all (K := X.K) (ps := ["first", "step", "n"]) fun us hl => match us, hl with | [_, _, _], _ => rfl) s3 [u1, .ref f, u3] I3.kIn rfl
    · obtain ⟨tl, tt, ta, tr, tn, tr2, tap, z1, z2, z3, z4, z5, z6, rfl, ps⟩ := rep_ps (C := ⟨T, none⟩) (F := ⟨X.env.qual ++ "<lambda>", params, body, scope, cloFrom X.env.cells scope.names [], c'⟩) (f := f) (Nl := Nl) (ws := js.map (slotAt σ)) (tb := tb) (te := t1) (P := X.prog) (w := X.w) (K := X.K) (mg := X.mg) (base := X.base) (g := g) (cdg := cdv) (A := X.A) (outer := X.stack) (s := s3) (H := H3) Nm
        (by have h9 := hr'.units; show (X.A.deeper (PyProof.Rows.envOfC "repeated" (defScope s_repeated) s3.heap.objs.size g cdv)).units + 9 < cLine; omega)
        (fun {e te p pos} he hse => pe_lam1 (X := repX X.prog X.w X.K X.mg X.base g cdv X.A X.stack s3 H3) ⟨pm2, ctv, hpin.1⟩ hpin.2.1 hfs (fun z => (nomatch z)) C nfC (fun _ _ _ z => (nomatch z)) S (hb _ _) hr' (hbody _ _ _) rfl (.inl rfl) he (by decide) (by decide) hse)
      exact ⟨_, ps.nox, rep_read (X := repX X.prog X.w X.K X.mg X.base g cdv X.A X.stack s3 H3) inj tup dep hval hn z1 z2 z3 z4 z5 z6 mk gl r0 hc3 hl hQ⟩
  refine wpAny_call (codeAny_mono rc fun r s' hq => ?_)
  cases r with
  | error e => exact pass0 pins σ H3 s3 e s' I3w hq
  | ok fl =>
    cases fl with
    | ret u => exact I3w.after hq
    | next => exact False.elim hq
    | brk => exact False.elim hq
    | cont => exact False.elim hq
end
end L3
namespace L3
open PySem L2
open PySem.Spec
open LamX (TabB Tabs CodeO codeO_ne)
open NdefX (CellsAt NScope Caps slotAt)
/-- repeated(e1, lambda y: body, e3), the lambda with one captured name that stands in the slot jb -/
def dRepC (jb : Nat) (τ1 τ3 τb : TD) : TD := fun ρ Q => τ1 ρ fun d1 => τ3 ρ fun d3 => ∃ (b : PyData) (α : Type) (enc : α → NK) (val : Nat → α) (stp : α → α) (n : Nat), ρ[jb]? = some (.dat b) ∧ (∀ a b, enc a = enc b → a = b) ∧ (∀ a, ∃ ks, enc a = .tup ks) ∧ (∀ a, (enc a).depth ≤ 8) ∧ (∀ i, val (i + 1) = stp (val i)) ∧ n ≤ 1000 ∧
  d3 = .int n ∧ d1 = (enc (val 0)).data ∧ (∀ i, i < n → τb [.dat (enc (val i)).data, .dat b] fun d => d = (enc (val (i + 1))).data) ∧ Q (enc (val n)).data
theorem env2 {T : List (Addr × Str)} {N : Msk} {H : Hp} {v u : V} {d b : PyData} (mk : Mok ⟨T, none⟩ N H) (gl : Glob ⟨T, none⟩ H) (r : R3 (wo H N) v d) (r2 : R3 (wo H N) u b) : EnvA ⟨T, none⟩ N (fun _ => none) H [some v, some u] [.dat d, .dat b] := by
  refine ⟨mk, gl, rfl, fun i c e => ?_, (fun i a z => nomatch z), (fun i j a z => nomatch z)⟩
  match i, e with
  | 0, e => cases e; exact ⟨v, rfl, r⟩
  | 1, e => cases e; exact ⟨u, rfl, r2⟩
  | i + 2, e => simp at e
section
variable {X : Cx} {T : List (Addr × Str)} {c P0 : Addr} {params : Arguments} {body e1 e3 : Expr} {scope : Scope} {lpos pos p : Pos} {y z : Str} {jb : Nat} {t1 t3 tb : TE} {τ1 τ3 τb : TD} {g : Addr} {fdr : FuncData}
theorem q_rept (F : Fun X.K "repeated" "repeated" s_repeated g fdr) (Nm : Nms X.mg) (hm : X.mg "repeated" = some (.ref g)) (hg : Gl X "repeated") (TB : TabB X.base X.mg c P0) (hcode : X.env.code = .ref c) (hmT : (P0, X.env.qual ++ "<lambda>") ∈ T) (hu : ∀ p ∈ T, p.1 = P0 → p.2 = X.env.qual ++ "<lambda>") (hdef : defaultsOf params X.env = ([], []))
    (S : NScope [y, z] [y] [z] scope) (hfree : ∀ y ∈ scope.names, y.2 = .free → X.env.scope.names.lookup y.1 = some .cell ∨ X.env.scope.names.lookup y.1 = some .free) (hfr : (z, NameKind.free) ∈ scope.names) (hjs : X.N[jb]? = some z) (hfn : ∀ x, X.fn x = true)
    (hb : ∀ (cl : List (Str × Addr)) (c' : Addr) (pm ctv : Value) (us : List Value), us.length = [y].length → bindArgs (LF.fd ⟨X.env.qual ++ "<lambda>", params, body, scope, cl, c'⟩ pm ctv) ⟨us, []⟩ = pure ([y].zip us)) (hr : Room 10 X.A)
    (hbody : ∀ (cl : List (Str × Addr)) (c' f : Addr) (A : Around) (outer : List Env) (s : Shared) (H : Hp), Room 8 (A.deeper (NdefX.envF (LF.nf ⟨X.env.qual ++ "<lambda>", params, body, scope, cl, c'⟩) f s.heap.objs.size)) → PDE (NdefX.ncx CX0 X.prog X.w X.K X.mg X.base [y, z] (LF.nf ⟨X.env.qual ++ "<lambda>", params, body, scope, cl, c'⟩) f A outer s H E0) ⟨T, none⟩ body tb τb) (hsb : Snd ⟨T, none⟩ tb τb)
    (h1 : PDE X ⟨T, none⟩ e1 t1 τ1) (h3 : PDE X ⟨T, none⟩ e3 t3 τ3) (hs1 : starEach [e1, .Lambda params body scope lpos, e3] X.env = (false, eval e1 X.env) :: starEach [.Lambda params body scope lpos, e3] X.env := by rfl)
    (hs2 : starEach [.Lambda params body scope lpos, e3] X.env = (false, eval (.Lambda params body scope lpos) X.env) :: starEach [e3] X.env := by rfl) (hs3 : starEach [e3] X.env = (false, eval e3 X.env) :: starEach [] X.env := by rfl) (hpl : (backTo pos (starEach [.Lambda params body scope lpos, e3] X.env)).any (·.1) = false := by rfl) :
    PDE X ⟨T, none⟩ (.Call (.Name "repeated" p) [e1, .Lambda params body scope lpos, e3] [] pos) (tRepC T (X.env.qual ++ "<lambda>") [y, z] [jb] t1 t3 tb) (dRepC jb τ1 τ3 τb) := by
  refine ⟨pe_rep F Nm hm hg TB hcode hmT hu hdef S hfree (fun y hy => by
    rw [List.mem_singleton.mp hy]
    exact hfr) (by simp [hjs]) hfn hb hr (fun cl c' f A outer s H hr8 => (hbody cl c' f A outer s H hr8).pe) h1.pe h3.pe hs1 hs2 hs3 hpl, fun N am H σ ρ QD Q en q hQ => ?_⟩
  refine h1.snd N am H σ ρ _ _ en q fun v1 H1 d1 q1 a1 g1 r1 => ⟨g1.tabs, fun c' H2 go2 hT2 hco => ?_⟩
  have a2 : Go ⟨T, none⟩ H1 H2 := go2.mono fun _ z => z.elim
  have g2 : Glob ⟨T, none⟩ H2 := ⟨hT2, fun _ e => nomatch e⟩
  have en1 := en.go a1 g1
  have en2 := en1.go a2 g2
  refine h3.snd N am H2 σ ρ _ _ en2 q1 fun v3 H3 d3 q3 a3 g3 r3 => ⟨a3.keep hco noW codeO_ne, ?_⟩
  have en3 := en2.go a3 g3
  obtain ⟨b, α, enc, val, stp, n, eb, inj, tup, dep, hval, hn, e3', e1', hl, q4⟩ := q3
  subst e3' e1'
  cases r3
  obtain ⟨vb, hvb, rb⟩ := en3.dat eb
  have W : ∀ a, (⟨T, none⟩ : C3).W a → N a := fun _ w => (noW w).elim
  refine ⟨α, enc, val, stp, n, N, inj, tup, dep, hval, hn, rfl, en3.mok, g3, r3_sub (sub_go W a3) _ _ (r3_sub (sub_go W a2) _ _ r1), fun i hi N' H' v Q' mk gl sub r k => ?_, fun v' H' a g r => hQ v' H' _ q4 (((a1.trans a2).trans a3).trans a) g r⟩
  have e2 : NdefX.startF [y, z] [v] ([jb].map (slotAt σ)) = [some v, some vb] := by
    have : slotAt σ jb = some vb := NdefX.slotAt_of hvb
    simp [NdefX.startF, this]
  rw [e2]
  refine hsb N' _ H' _ _ _ Q' (env2 mk gl r (r3_sub sub _ _ rb)) (hl i hi) fun v2 H2' d hd a g r => ?_
  subst hd
  exact k v2 H2' a g r
end
/-- a def of the text whose code object stands at c -/
structure FunC (K : PySem.W.Frag) (x qual : Str) (st : Stmt) (f : Addr) (fd : FuncData) (c : Addr) : Prop where
  ex : ∃ (oc : Value) (od : Option Addr) (kV doc pm : Value) (an : Option Addr) (ct : Value) (osl : Array (Option Value)),
    fd = PySem.W.fnOf x qual (defArgs st) (defBody st) (defScope st) .none kV doc pm an (.ref c) ct ∧ K.lookup f = some ⟨oc, od, .func fd, osl⟩ ∧ PySem.W.codeIn K (.ref c) qual = true
section
variable {P : Program} {w : World} {K : PySem.W.Frag} {mg : Str → Option Value} {base : Heap}
theorem fn3C {C : C3} {x qual : Str} {st : Stmt} {f c : Addr} {fd : FuncData} {names ps : List Str} {k : Nat} {φ : Phi} (F : FunC K x qual st f fd c) (S : FnScope names ps (defScope st)) (len : ∀ ds QD, φ ds QD → ds.length = ps.length)
    (body : ∀ (A : Around) (outer : List Env) (s : Shared) (H : Hp) (E : XK), Room k (A.deeper (PyProof.Rows.envOfC qual (defScope st) s.heap.objs.size f (.ref c))) →
      ∃ t τ, PDSs (cxOf CX0 P w K mg base names qual (defScope st) f (.ref c) A outer s H E).nox C (defBody st) t τ ∧ ∀ ds QD, φ ds QD → τ { nx := fun _ => QD .none, rt := QD } (env0 names ds)) : FnOk P w K mg base CX0 (k + 1) f fd ps (sp3 C φ) := by
  obtain ⟨oc, od, kV, doc, pm, an, ct, osl, rfl, lk, hcd⟩ := F.ex
  refine fn_of lk hcd S (sp3_len len) fun A outer s H vs Q E hr hsp => ?_
  obtain ⟨t, τ, h, hφ⟩ := body A outer s H E hr
  exact ⟨t, h.ps.nox, fn3_run h.snd hφ hsp⟩
end
end L3
namespace L3
open PySem L2
open PySem.Spec
open LamX (TabB Tabs CodeO codeO_ne)
section
variable {P : Program} {w : World} {K : PySem.W.Frag} {mg : Str → Option Value} {base : Heap} {T : List (Addr × Str)}
def phi_grown_book : Phi := fun ds Q => ∃ p b, ds = [eBook p, eBook b] ∧ BookOk b ∧ p.length ≤ 3 ∧ (∀ w ∈ p, WebOk w ∧ Below w b.length ∧ RoomOk b w) ∧ Q (eBook (p.map (round b)))
abbrev s_grown_book : Stmt := topS 35
theorem sc_grown_book : FnScope ["book", "other", "growth"] ["book", "other"] (defScope s_grown_book) := ⟨rfl, rfl, rfl, by decide +kernel, rfl, by decide +kernel, by decide +kernel⟩
theorem ok_grown_book {f : Addr} {fd : FuncData} (F : Fun K "grown_book" "grown_book" s_grown_book f fd) (N : Nms mg) (h_one_round : Has P w K mg base "one_round" 7 ["web", "book"] (sp3 ⟨T, none⟩ phi_one_round)) : FnOk P w K mg base CX0 8 f fd ["book", "other"] (sp3 ⟨T, none⟩ phi_grown_book) := by
  refine fn3 F sc_grown_book (fun ds QD h => ?_) (fun cdv A outer s H E hr => ⟨_, _, (by exact qss_one (qs_ret (q_cty call_tuple_of l_tuple rfl N.tuple bt_tuple (qa_cons (PDL.pde (ql_lc rfl sc_grown_book.nd (own := [("growth", 2)]) (qi_tupK (q_var 0)) (blkOk_by (by rfl)) (fun _ _ _ _ _ => (qg_name (i := 2) sc_grown_book.nd)) (fun _ _ _ _ _ => qts_nil) (fun _ _ _ _ _ => (q_call h_one_round (hr.mono (by decide)) (qa_cons (q_var 2) (qa_cons (q_var 1) qa_nil)))) (by decide) s)) qa_nil)))), fun ds QD h => ?_⟩)
  · obtain ⟨p, b, rfl, _⟩ := h; rfl
  · obtain ⟨p, b, rfl, ok, hl, hp, h⟩ := h
    repeat (first | refine ⟨_, rfl, ?_⟩ | refine ⟨_, _, rfl, rfl, ?_⟩ | refine ⟨_, _, _, .inr rfl, rfl, rfl, ?_⟩ | refine ⟨_, _, _, .inl rfl, rfl, rfl, ?_⟩ | refine ⟨_, .inr rfl, ?_⟩ | refine ⟨_, .inl rfl, ?_⟩ | refine ⟨(by intro s z; cases z), ?_⟩ | refine ⟨Nat.le_of_ble_eq_true rfl, ?_⟩ | refine ⟨rfl, ?_⟩ | refine iteT ?_ | refine iteF ?_ | refine ⟨_, _, rfl, ?_⟩ | refine ⟨_, _, _, rfl, ?_⟩)
    refine lc_map (enc := eWeb) (f := fun w => eWeb (round b w)) p [] (by simp; omega) (fun v hv K' hK => ?_) ?_
    · obtain ⟨k1, k2, k3⟩ := hp v hv
      repeat (first | refine ⟨_, rfl, ?_⟩ | refine ⟨_, _, rfl, rfl, ?_⟩ | refine ⟨_, _, _, .inr rfl, rfl, rfl, ?_⟩ | refine ⟨_, _, _, .inl rfl, rfl, rfl, ?_⟩ | refine ⟨_, .inr rfl, ?_⟩ | refine ⟨_, .inl rfl, ?_⟩ | refine ⟨(by intro s z; cases z), ?_⟩ | refine ⟨Nat.le_of_ble_eq_true rfl, ?_⟩ | refine ⟨rfl, ?_⟩ | refine iteT ?_ | refine iteF ?_ | refine ⟨_, _, rfl, ?_⟩ | refine ⟨_, _, _, rfl, ?_⟩)
      exact ⟨k1, ok, k2, k3, hK⟩
    · repeat (first | refine ⟨_, rfl, ?_⟩ | refine ⟨_, _, rfl, rfl, ?_⟩ | refine ⟨_, _, _, .inr rfl, rfl, rfl, ?_⟩ | refine ⟨_, _, _, .inl rfl, rfl, rfl, ?_⟩ | refine ⟨_, .inr rfl, ?_⟩ | refine ⟨_, .inl rfl, ?_⟩ | refine ⟨(by intro s z; cases z), ?_⟩ | refine ⟨Nat.le_of_ble_eq_true rfl, ?_⟩ | refine ⟨rfl, ?_⟩ | refine iteT ?_ | refine iteF ?_ | refine ⟨_, _, rfl, ?_⟩ | refine ⟨_, _, _, rfl, ?_⟩)
      refine byEq (Q := QD) h ?_
      unfold eBook
      simp [Function.comp_def]
def phi_grown : Phi := fun ds Q => ∃ g n, ds = [eGar g, eN n] ∧ GarOk g ∧ n ≤ 900 ∧ Fits g n ∧ Q (eWeb (W g n))
abbrev s_grown : Stmt := topS 34
theorem sc_grown : FnScope ["garden", "n", "start", "book"] ["garden", "n"] (defScope s_grown) := ⟨rfl, rfl, rfl, by decide +kernel, rfl, by decide +kernel, by decide +kernel⟩
theorem ok_grown {f g c Pg : Addr} {fd fdr : FuncData} (F : FunC K "grown" "grown" s_grown f fd c) (N : Nms mg) (h_need_garden : Has P w K mg base "need_garden" 8 ["garden"] (sp3 ⟨T, none⟩ phi_need_garden)) (h_need_from : Has P w K mg base "need_from" 2 ["thing", "least"] (sp3 ⟨T, none⟩ phi_need_from))
    (Fr : Fun K "repeated" "repeated" s_repeated g fdr) (hm : mg "repeated" = some (.ref g)) (h_one_round : Has P w K mg base "one_round" 7 ["web", "book"] (sp3 ⟨T, none⟩ phi_one_round)) (TB : TabB base mg c Pg) (hmT : (Pg, ("grown" ++ ".<locals>." : Str) ++ "<lambda>") ∈ T) (hu : ∀ p ∈ T, p.1 = Pg → p.2 = ("grown" ++ ".<locals>." : Str) ++ "<lambda>") :
    FnOk P w K mg base CX0 11 f fd ["garden", "n"] (sp3 ⟨T, none⟩ phi_grown) := by
  have hsb : Snd ⟨T, none⟩ (tCall (sp3 ⟨T, none⟩ phi_one_round) [] E0 (tCons (tVar 0) (tCons (tVar 1) tNil))) (dCB phi_one_round (dCons (dVar 0) (dCons (dVar 1) dNil))) := snd_cb (r := fun vs H Q => sp3 (⟨T, none⟩ : C3).off phi_one_round (vs ++ []) H Q E0) lift_sp3 (snd_cons (snd_var 0) (snd_cons (snd_var 1) snd_nil))
  refine fn3C F sc_grown (fun ds QD h => ?_) (fun A outer s H E hr => ⟨_, _, (by exact qss_cons (qs_expr (q_call h_need_garden (hr.mono (by decide)) (qa_cons (q_var 0) qa_nil))) (qss_cons (qs_expr (q_call h_need_from (hr.mono (by decide)) (qa_cons (q_var 1) (qa_cons q_int qa_nil)))) (qss_cons (qs_asg (q_var 0) (qg_tupK (n := 2) rfl (qgs_cons (qg_name (i := 2) sc_grown.nd) (qgs_cons (qg_name (i := 3) sc_grown.nd) qgs_nil)))) (qss_one (qs_ret
    (q_rept (y := "web") (z := "book") (jb := 3) Fr N hm rfl TB rfl hmT hu rfl (NdefX.nscope_by (by decide +kernel)) (NdefX.ndef_free (fr := ["book"]) (by rfl)) (by decide) rfl (fun _ => rfl) (fun _ _ _ _ us hl => match us, hl with | [_], _ => rfl) hr
      (fun cl c' f A outer s H hr8 => q_call h_one_round (hr8.mono (by decide)) (qa_cons (q_var 0) (qa_cons (q_var 1) qa_nil))) hsb (q_var 2) (q_var 1))))))), fun ds QD h => ?_⟩)
  · obtain ⟨p, b, rfl, _⟩ := h; rfl
  · obtain ⟨g, n, rfl, ok, hn, fit, h⟩ := h
    repeat (first | refine ⟨_, rfl, ?_⟩ | refine ⟨_, _, rfl, rfl, ?_⟩ | refine ⟨_, _, _, .inr rfl, rfl, rfl, ?_⟩ | refine ⟨_, _, _, .inl rfl, rfl, rfl, ?_⟩ | refine ⟨_, .inr rfl, ?_⟩ | refine ⟨_, .inl rfl, ?_⟩ | refine ⟨(by intro s z; cases z), ?_⟩ | refine ⟨Nat.le_of_ble_eq_true rfl, ?_⟩ | refine ⟨rfl, ?_⟩ | refine iteT ?_ | refine iteF ?_ | refine ⟨_, _, rfl, ?_⟩ | refine ⟨_, _, _, rfl, ?_⟩)
    refine ⟨ok, ?_⟩
    repeat (first | refine ⟨_, rfl, ?_⟩ | refine ⟨_, _, rfl, rfl, ?_⟩ | refine ⟨_, _, _, .inr rfl, rfl, rfl, ?_⟩ | refine ⟨_, _, _, .inl rfl, rfl, rfl, ?_⟩ | refine ⟨_, .inr rfl, ?_⟩ | refine ⟨_, .inl rfl, ?_⟩ | refine ⟨(by intro s z; cases z), ?_⟩ | refine ⟨Nat.le_of_ble_eq_true rfl, ?_⟩ | refine ⟨rfl, ?_⟩ | refine iteT ?_ | refine iteF ?_ | refine ⟨_, _, rfl, ?_⟩ | refine ⟨_, _, _, rfl, ?_⟩)
    refine ⟨eBook g.2, Web, kWeb, W g, round g.2, n, rfl, kWeb_inj, fun a => ⟨_, rfl⟩, fun a => Nat.le_trans (kWeb_dep a) (by decide), fun _ => rfl, by omega, rfl, (kWeb_data _).symm, fun i hi => ?_, ?_⟩
    · obtain ⟨k1, k2⟩ := W_ok ok.start ok.book ok.below fit i (by omega)
      rw [kWeb_data, kWeb_data]
      repeat (first | refine ⟨_, rfl, ?_⟩ | refine ⟨_, _, rfl, rfl, ?_⟩ | refine ⟨_, _, _, .inr rfl, rfl, rfl, ?_⟩ | refine ⟨_, _, _, .inl rfl, rfl, rfl, ?_⟩ | refine ⟨_, .inr rfl, ?_⟩ | refine ⟨_, .inl rfl, ?_⟩ | refine ⟨(by intro s z; cases z), ?_⟩ | refine ⟨Nat.le_of_ble_eq_true rfl, ?_⟩ | refine ⟨rfl, ?_⟩ | refine iteT ?_ | refine iteF ?_ | refine ⟨_, _, rfl, ?_⟩ | refine ⟨_, _, _, rfl, ?_⟩)
      exact ⟨k1, ok.book, k2, W_room fit hi, rfl⟩
    · rw [kWeb_data]
      exact h
def phi_book_power : Phi := fun ds Q => ∃ b n, ds = [eBook b, eN n] ∧ BookOk b ∧ 1 ≤ n ∧ n ≤ 900 ∧ (∀ w ∈ b, Fits (w, b) (n - 1)) ∧ Q (eBook (b.map fun w => W (w, b) (n - 1)))
abbrev s_book_power : Stmt := topS 36
theorem sc_book_power : FnScope ["book", "n"] ["book", "n"] (defScope s_book_power) := ⟨rfl, rfl, rfl, by decide +kernel, rfl, by decide +kernel, by decide +kernel⟩
theorem ok_book_power {f g c Pg : Addr} {fd fdr : FuncData} (F : FunC K "book_power" "book_power" s_book_power f fd c) (N : Nms mg) (h_need_book : Has P w K mg base "need_book" 7 ["book"] (sp3 ⟨T, none⟩ phi_need_book)) (h_need_from : Has P w K mg base "need_from" 2 ["thing", "least"] (sp3 ⟨T, none⟩ phi_need_from))
    (Fr : Fun K "repeated" "repeated" s_repeated g fdr) (hm : mg "repeated" = some (.ref g)) (h_grown_book : Has P w K mg base "grown_book" 8 ["book", "other"] (sp3 ⟨T, none⟩ phi_grown_book)) (TB : TabB base mg c Pg) (hmT : (Pg, ("book_power" ++ ".<locals>." : Str) ++ "<lambda>") ∈ T) (hu : ∀ p ∈ T, p.1 = Pg → p.2 = ("book_power" ++ ".<locals>." : Str) ++ "<lambda>") :
    FnOk P w K mg base CX0 11 f fd ["book", "n"] (sp3 ⟨T, none⟩ phi_book_power) := by
  have hsb : Snd ⟨T, none⟩ (tCall (sp3 ⟨T, none⟩ phi_grown_book) [] E0 (tCons (tVar 0) (tCons (tVar 1) tNil))) (dCB phi_grown_book (dCons (dVar 0) (dCons (dVar 1) dNil))) := snd_cb (r := fun vs H Q => sp3 (⟨T, none⟩ : C3).off phi_grown_book (vs ++ []) H Q E0) lift_sp3 (snd_cons (snd_var 0) (snd_cons (snd_var 1) snd_nil))
  refine fn3C F sc_book_power (fun ds QD h => ?_) (fun A outer s H E hr => ⟨_, _, (by exact qss_cons (qs_expr (q_call h_need_book (hr.mono (by decide)) (qa_cons (q_var 0) qa_nil))) (qss_cons (qs_expr (q_call h_need_from (hr.mono (by decide)) (qa_cons (q_var 1) (qa_cons q_int qa_nil)))) (qss_one (qs_ret
    (q_rept (y := "power") (z := "book") (jb := 0) Fr N hm rfl TB rfl hmT hu rfl (NdefX.nscope_by (by decide +kernel)) (NdefX.ndef_free (fr := ["book"]) (by rfl)) (by decide) rfl (fun _ => rfl) (fun _ _ _ _ us hl => match us, hl with | [_], _ => rfl) hr
      (fun cl c' f A outer s H hr8 => q_call h_grown_book (hr8.mono (by decide)) (qa_cons (q_var 0) (qa_cons (q_var 1) qa_nil))) hsb (q_var 0) (q_sub (q_var 1) q_int)))))), fun ds QD h => ?_⟩)
  · obtain ⟨p, b, rfl, _⟩ := h; rfl
  · obtain ⟨b, n, rfl, ok, h1, hn, fit, h⟩ := h
    repeat (first | refine ⟨_, rfl, ?_⟩ | refine ⟨_, _, rfl, rfl, ?_⟩ | refine ⟨_, _, _, .inr rfl, rfl, rfl, ?_⟩ | refine ⟨_, _, _, .inl rfl, rfl, rfl, ?_⟩ | refine ⟨_, .inr rfl, ?_⟩ | refine ⟨_, .inl rfl, ?_⟩ | refine ⟨(by intro s z; cases z), ?_⟩ | refine ⟨Nat.le_of_ble_eq_true rfl, ?_⟩ | refine ⟨rfl, ?_⟩ | refine iteT ?_ | refine iteF ?_ | refine ⟨_, _, rfl, ?_⟩ | refine ⟨_, _, _, rfl, ?_⟩)
    refine ⟨ok, ?_⟩
    repeat (first | refine ⟨_, rfl, ?_⟩ | refine ⟨_, _, rfl, rfl, ?_⟩ | refine ⟨_, _, _, .inr rfl, rfl, rfl, ?_⟩ | refine ⟨_, _, _, .inl rfl, rfl, rfl, ?_⟩ | refine ⟨_, .inr rfl, ?_⟩ | refine ⟨_, .inl rfl, ?_⟩ | refine ⟨(by intro s z; cases z), ?_⟩ | refine ⟨Nat.le_of_ble_eq_true rfl, ?_⟩ | refine ⟨rfl, ?_⟩ | refine iteT ?_ | refine iteF ?_ | refine ⟨_, _, rfl, ?_⟩ | refine ⟨_, _, _, rfl, ?_⟩)
    refine ⟨h1, ?_⟩
    repeat (first | refine ⟨_, rfl, ?_⟩ | refine ⟨_, _, rfl, rfl, ?_⟩ | refine ⟨_, _, _, .inr rfl, rfl, rfl, ?_⟩ | refine ⟨_, _, _, .inl rfl, rfl, rfl, ?_⟩ | refine ⟨_, .inr rfl, ?_⟩ | refine ⟨_, .inl rfl, ?_⟩ | refine ⟨(by intro s z; cases z), ?_⟩ | refine ⟨Nat.le_of_ble_eq_true rfl, ?_⟩ | refine ⟨rfl, ?_⟩ | refine iteT ?_ | refine iteF ?_ | refine ⟨_, _, rfl, ?_⟩ | refine ⟨_, _, _, rfl, ?_⟩)
    refine ⟨eBook b, Book, kBook, fun i => b.map fun w => W (w, b) i, fun p => p.map (round b), n - 1, rfl, kBook_inj, fun a => ⟨_, rfl⟩, kBook_dep, fun i => ?_, by omega, ?_, ?_, fun i hi => ?_, ?_⟩
    · show _ = (b.map fun w => W (w, b) i).map (round b)
      rw [List.map_map]
      rfl
    · simp
      omega
    · rw [kBook_data]
      show eBook b = eBook (b.map fun w => w)
      rw [List.map_id']
    · rw [kBook_data, kBook_data]
      repeat (first | refine ⟨_, rfl, ?_⟩ | refine ⟨_, _, rfl, rfl, ?_⟩ | refine ⟨_, _, _, .inr rfl, rfl, rfl, ?_⟩ | refine ⟨_, _, _, .inl rfl, rfl, rfl, ?_⟩ | refine ⟨_, .inr rfl, ?_⟩ | refine ⟨_, .inl rfl, ?_⟩ | refine ⟨(by intro s z; cases z), ?_⟩ | refine ⟨Nat.le_of_ble_eq_true rfl, ?_⟩ | refine ⟨rfl, ?_⟩ | refine iteT ?_ | refine iteF ?_ | refine ⟨_, _, rfl, ?_⟩ | refine ⟨_, _, _, rfl, ?_⟩)
      refine ⟨ok, by rw [List.length_map]; exact ok.few, fun v hv => ?_, ?_⟩
      · obtain ⟨w', hw, rfl⟩ := List.mem_map.mp hv
        obtain ⟨k1, k2, k3⟩ := ok.webs w' hw
        obtain ⟨k4, k5⟩ := W_ok (g := (w', b)) k1 ok k3 (fit w' hw) i (by omega)
        exact ⟨k4, k5, W_room (fit w' hw) hi⟩
      · rw [List.map_map]
        rfl
    · rw [kBook_data]
      exact h
def phi_address_of : Phi := fun ds Q => ∃ g n p, ds = [eGar g, eN n, eN p] ∧ GarOk g ∧ n ≤ 900 ∧ Fits g n ∧ StFit g n ∧ p < (W g n).1 ∧ ∃ a, (allA g n)[p]? = some a ∧ Q (eAdr a)
abbrev s_address_of : Stmt := topS 52
theorem sc_address_of : FnScope ["garden", "n", "place", "web"] ["garden", "n", "place"] (defScope s_address_of) := ⟨rfl, rfl, rfl, by decide +kernel, rfl, by decide +kernel, by decide +kernel⟩
theorem ok_address_of {f : Addr} {fd : FuncData} (F : Fun K "address_of" "address_of" s_address_of f fd) (N : Nms mg) (h_grown : Has P w K mg base "grown" 11 ["garden", "n"] (sp3 ⟨T, none⟩ phi_grown)) (h_is_between : Has P w K mg base "is_between" 2 ["thing", "least", "most"] (sp3 ⟨T, none⟩ phi_is_between)) (h_all_addresses : Has P w K mg base "all_addresses" 4 ["garden", "n"] (sp3 ⟨T, none⟩ phi_all_addresses)) : FnOk P w K mg base CX0 12 f fd ["garden", "n", "place"] (sp3 ⟨T, none⟩ phi_address_of) := by
  refine fn3 F sc_address_of (fun ds QD h => ?_) (fun cdv A outer s H E hr => ⟨_, _, (by exact qss_cons (qs_set (i := 3) sc_address_of.nd (q_call h_grown (hr.mono (by decide)) (qa_cons (q_var 0) (qa_cons (q_var 1) qa_nil)))) (qss_cons (qs_if (qt_not (qt_val (q_call h_is_between (hr.mono (by decide)) (qa_cons (q_var 2) (qa_cons q_int (qa_cons (q_sub (q_ixK (q_var 3) q_int) q_int) qa_nil)))))) (qss_never) (qss_nil)) (qss_one (qs_ret (q_ixK (q_call h_all_addresses (hr.mono (by decide)) (qa_cons (q_var 0) (qa_cons (q_var 1) qa_nil))) (q_var 2)))))), fun ds QD h => ?_⟩)
  · obtain ⟨g, n, p, rfl, _⟩ := h; rfl
  · obtain ⟨g, n, p, rfl, ok, hn, fit, sfit, hp, a, ha, h⟩ := h
    repeat (first | refine ⟨_, rfl, ?_⟩ | refine ⟨_, _, rfl, rfl, ?_⟩ | refine ⟨_, _, _, .inr rfl, rfl, rfl, ?_⟩ | refine ⟨_, _, _, .inl rfl, rfl, rfl, ?_⟩ | refine ⟨_, .inr rfl, ?_⟩ | refine ⟨_, .inl rfl, ?_⟩ | refine ⟨(by intro s z; cases z), ?_⟩ | refine ⟨Nat.le_of_ble_eq_true rfl, ?_⟩ | refine ⟨rfl, ?_⟩ | refine iteT ?_ | refine iteF ?_ | refine ⟨_, _, rfl, ?_⟩ | refine ⟨_, _, _, rfl, ?_⟩)
    refine ⟨ok, hn, fit, ?_⟩
    repeat (first | refine ⟨_, rfl, ?_⟩ | refine ⟨_, _, rfl, rfl, ?_⟩ | refine ⟨_, _, _, .inr rfl, rfl, rfl, ?_⟩ | refine ⟨_, _, _, .inl rfl, rfl, rfl, ?_⟩ | refine ⟨_, .inr rfl, ?_⟩ | refine ⟨_, .inl rfl, ?_⟩ | refine ⟨(by intro s z; cases z), ?_⟩ | refine ⟨Nat.le_of_ble_eq_true rfl, ?_⟩ | refine ⟨rfl, ?_⟩ | refine iteT ?_ | refine iteF ?_ | refine ⟨_, _, rfl, ?_⟩ | refine ⟨_, _, _, rfl, ?_⟩)
    refine ⟨by omega, by omega, ?_⟩
    repeat (first | refine ⟨_, rfl, ?_⟩ | refine ⟨_, _, rfl, rfl, ?_⟩ | refine ⟨_, _, _, .inr rfl, rfl, rfl, ?_⟩ | refine ⟨_, _, _, .inl rfl, rfl, rfl, ?_⟩ | refine ⟨_, .inr rfl, ?_⟩ | refine ⟨_, .inl rfl, ?_⟩ | refine ⟨(by intro s z; cases z), ?_⟩ | refine ⟨Nat.le_of_ble_eq_true rfl, ?_⟩ | refine ⟨rfl, ?_⟩ | refine iteT ?_ | refine iteF ?_ | refine ⟨_, _, rfl, ?_⟩ | refine ⟨_, _, _, rfl, ?_⟩)
    refine ⟨ok, sfit, hn, ?_⟩
    repeat (first | refine ⟨_, rfl, ?_⟩ | refine ⟨_, _, rfl, rfl, ?_⟩ | refine ⟨_, _, _, .inr rfl, rfl, rfl, ?_⟩ | refine ⟨_, _, _, .inl rfl, rfl, rfl, ?_⟩ | refine ⟨_, .inr rfl, ?_⟩ | refine ⟨_, .inl rfl, ?_⟩ | refine ⟨(by intro s z; cases z), ?_⟩ | refine ⟨Nat.le_of_ble_eq_true rfl, ?_⟩ | refine ⟨rfl, ?_⟩ | refine iteT ?_ | refine iteF ?_ | refine ⟨_, _, rfl, ?_⟩ | refine ⟨_, _, _, rfl, ?_⟩)
    exact ⟨_, _, _, .inl rfl, rfl, atI_map ha, h⟩
def phi_place_of : Phi := fun ds Q => ∃ g n a, ds = [eGar g, eN n, eAdr a] ∧ GarOk g ∧ n ≤ 900 ∧ Fits g n ∧ StFit g n ∧ AdrOk g a ∧ a.1.length ≤ n ∧ ∃ j, (allA g n)[j]? = some a ∧ (∀ m, m < j → (allA g n)[m]? ≠ some a) ∧ Q (eN j)
abbrev s_place_of : Stmt := topS 53
theorem sc_place_of : FnScope ["garden", "n", "address"] ["garden", "n", "address"] (defScope s_place_of) := ⟨rfl, rfl, rfl, by decide +kernel, rfl, by decide +kernel, by decide +kernel⟩
theorem ok_place_of {f : Addr} {fd : FuncData} (F : Fun K "place_of" "place_of" s_place_of f fd) (N : Nms mg) (h_grown : Has P w K mg base "grown" 11 ["garden", "n"] (sp3 ⟨T, none⟩ phi_grown)) (h_is_address_after : Has P w K mg base "is_address_after" 6 ["garden", "n", "thing"] (sp3 ⟨T, none⟩ phi_is_address_after)) (h_all_addresses : Has P w K mg base "all_addresses" 4 ["garden", "n"] (sp3 ⟨T, none⟩ phi_all_addresses)) : FnOk P w K mg base CX0 12 f fd ["garden", "n", "address"] (sp3 ⟨T, none⟩ phi_place_of) := by
  refine fn3 F sc_place_of (fun ds QD h => ?_) (fun cdv A outer s H E hr => ⟨_, _, (by exact qss_cons (qs_expr (q_call h_grown (hr.mono (by decide)) (qa_cons (q_var 0) (qa_cons (q_var 1) qa_nil)))) (qss_cons (qs_if (qt_not (qt_val (q_call h_is_address_after (hr.mono (by decide)) (qa_cons (q_var 0) (qa_cons (q_var 1) (qa_cons (q_var 2) qa_nil)))))) (qss_never) (qss_nil)) (qss_one (qs_ret (q_index (room65 hr) (q_call h_all_addresses (hr.mono (by decide)) (qa_cons (q_var 0) (qa_cons (q_var 1) qa_nil))) (q_var 2)))))), fun ds QD h => ?_⟩)
  · obtain ⟨g, n, a, rfl, _⟩ := h; rfl
  · obtain ⟨g, n, a, rfl, ok, hn, fit, sfit, aok, hl, j, hj, hno, h⟩ := h
    repeat (first | refine ⟨_, rfl, ?_⟩ | refine ⟨_, _, rfl, rfl, ?_⟩ | refine ⟨_, _, _, .inr rfl, rfl, rfl, ?_⟩ | refine ⟨_, _, _, .inl rfl, rfl, rfl, ?_⟩ | refine ⟨_, .inr rfl, ?_⟩ | refine ⟨_, .inl rfl, ?_⟩ | refine ⟨(by intro s z; cases z), ?_⟩ | refine ⟨Nat.le_of_ble_eq_true rfl, ?_⟩ | refine ⟨rfl, ?_⟩ | refine iteT ?_ | refine iteF ?_ | refine ⟨_, _, rfl, ?_⟩ | refine ⟨_, _, _, rfl, ?_⟩)
    refine ⟨ok, hn, fit, ?_⟩
    repeat (first | refine ⟨_, rfl, ?_⟩ | refine ⟨_, _, rfl, rfl, ?_⟩ | refine ⟨_, _, _, .inr rfl, rfl, rfl, ?_⟩ | refine ⟨_, _, _, .inl rfl, rfl, rfl, ?_⟩ | refine ⟨_, .inr rfl, ?_⟩ | refine ⟨_, .inl rfl, ?_⟩ | refine ⟨(by intro s z; cases z), ?_⟩ | refine ⟨Nat.le_of_ble_eq_true rfl, ?_⟩ | refine ⟨rfl, ?_⟩ | refine iteT ?_ | refine iteF ?_ | refine ⟨_, _, rfl, ?_⟩ | refine ⟨_, _, _, rfl, ?_⟩)
    refine ⟨ok, aok, hl, ?_⟩
    repeat (first | refine ⟨_, rfl, ?_⟩ | refine ⟨_, _, rfl, rfl, ?_⟩ | refine ⟨_, _, _, .inr rfl, rfl, rfl, ?_⟩ | refine ⟨_, _, _, .inl rfl, rfl, rfl, ?_⟩ | refine ⟨_, .inr rfl, ?_⟩ | refine ⟨_, .inl rfl, ?_⟩ | refine ⟨(by intro s z; cases z), ?_⟩ | refine ⟨Nat.le_of_ble_eq_true rfl, ?_⟩ | refine ⟨rfl, ?_⟩ | refine iteT ?_ | refine iteF ?_ | refine ⟨_, _, rfl, ?_⟩ | refine ⟨_, _, _, rfl, ?_⟩)
    refine ⟨ok, sfit, hn, ?_⟩
    repeat (first | refine ⟨_, rfl, ?_⟩ | refine ⟨_, _, rfl, rfl, ?_⟩ | refine ⟨_, _, _, .inr rfl, rfl, rfl, ?_⟩ | refine ⟨_, _, _, .inl rfl, rfl, rfl, ?_⟩ | refine ⟨_, .inr rfl, ?_⟩ | refine ⟨_, .inl rfl, ?_⟩ | refine ⟨(by intro s z; cases z), ?_⟩ | refine ⟨Nat.le_of_ble_eq_true rfl, ?_⟩ | refine ⟨rfl, ?_⟩ | refine iteT ?_ | refine iteF ?_ | refine ⟨_, _, rfl, ?_⟩ | refine ⟨_, _, _, rfl, ?_⟩)
    have dA : ∀ a : Adr, (eAdr a).depth ≤ 7 := fun a => by
      have := dep_row a.1
      simp [eAdr, PyData.depth, PyData.depthAll, dep_n]
      omega
    refine ⟨j, eAdr a, (enc_list enc_adr dA).shaped _, enc_adr.shaped a, by rw [List.getElem?_map, hj]; rfl, enc_adr.eqv_self a, fun m y hm hy => ?_, h⟩
    rw [List.getElem?_map] at hy
    cases e : (allA g n)[m]? with
    | none => rw [e] at hy; cases hy
    | some z =>
      rw [e] at hy
      cases hy
      have nz : z ≠ a := fun q => hno m hm (by rw [e, q])
      rw [enc_adr.eqv]
      simp [nz]
end
end L3
namespace L3
open PySem L2
open PySem.Spec
def tabE (b : Book) (c : Nat) (e s : Bool) (d : Nat) : Nat := cntE (kd b c).2 s (if e then 1 else 0) d
def dstep (b : Book) (f : Bool → Nat → Nat) (s : Bool) (d : Nat) : Nat := sumK b.length (fun c => f false c * tabE b c false s d) + sumK b.length (fun c => f true c * tabE b c true s d)
def degF (g : Gar) (a : Adr) : Nat → Bool → Nat → Nat
  | 0 => fun s d => cntE (around g a.1).2 s a.2 d
  | i + 1 => dstep g.2 (degF g a i)
theorem lstF_set {k : Nat} {f f' : Nat → Nat} {j : Nat} (hj : j < k) (h1 : ∀ d, d ≠ j → f' d = f d) : (lstF k f).set j (eN (f' j)) = lstF k f' := by
  unfold lstF
  refine List.ext_getElem? fun c => ?_
  by_cases hc : c < k
  · by_cases e : j = c
    · subst e
      rw [List.getElem?_set_self (by simp; exact hc), List.getElem?_map, List.getElem?_range hc]
      rfl
    · rw [List.getElem?_set_ne e, List.getElem?_map, List.getElem?_map, List.getElem?_range hc]
      simp [h1 c (Ne.symm e)]
  · rw [List.getElem?_eq_none (by simp; omega), List.getElem?_eq_none (by simp; omega)]
theorem lstF_congr {k : Nat} {f f' : Nat → Nat} (h : ∀ d, d < k → f d = f' d) : lstF k f = lstF k f' := List.map_congr_left fun d hd => by rw [h d (List.mem_range.mp hd)]
theorem cntL_lstF (ts : List Tie) (s : Bool) (p k : Nat) : (cntL ts s p k).map eN = lstF k (cntE ts s p) := by
  unfold cntL lstF
  rw [List.map_map]
  rfl
theorem lstF_nil (k : Nat) : List.replicate k (PyData.int 0) = lstF k fun _ => 0 := by
  unfold lstF
  rw [List.map_const']
  simp [eN]
def o2 (k : Nat) (f : Bool → Nat → Nat) : Cell := .own2 (lstF k (f false)) (lstF k (f true))
def upF (acc pt : Bool → Nat → Nat) (s : Bool) (many j : Nat) : Bool → Nat → Nat := fun s' d => acc s' d + if s' = s ∧ d < j then many * pt s d else 0
def addF (acc pt : Bool → Nat → Nat) (s : Bool) (many : Nat) : Bool → Nat → Nat := fun s' d => acc s' d + if s' = s then many * pt s d else 0
theorem upF_zero (acc pt : Bool → Nat → Nat) (s : Bool) (many : Nat) : upF acc pt s many 0 = acc := by
  funext s' d
  simp [upF]
theorem upF_other {acc pt : Bool → Nat → Nat} {s s' : Bool} {many j : Nat} (h : s' ≠ s) : upF acc pt s many (j + 1) s' = upF acc pt s many j s' := by
  funext d
  simp [upF, h]
theorem upF_set {acc pt : Bool → Nat → Nat} {s : Bool} {many j k : Nat} (hj : j < k) : (lstF k (upF acc pt s many j s)).set j (.int (((upF acc pt s many j s j : Nat) : Int) + (many : Int) * (pt s j : Int))) = lstF k (upF acc pt s many (j + 1) s) := by
  have e : (((upF acc pt s many j s j : Nat) : Int) + (many : Int) * (pt s j : Int)) = ((upF acc pt s many (j + 1) s j : Nat) : Int) := by simp [upF]
  rw [e]
  refine lstF_set (f' := upF acc pt s many (j + 1) s) hj fun d hd => ?_
  unfold upF
  by_cases q : d < j
  · simp [q, show d < j + 1 by omega]
  · simp [q, show ¬ d < j + 1 by omega]
theorem upF_all {acc pt : Bool → Nat → Nat} {s : Bool} {many k : Nat} : o2 k (upF acc pt s many k) = o2 k (addF acc pt s many) := by
  unfold o2
  rw [lstF_congr (f := upF acc pt s many k false) (f' := addF acc pt s many false) fun d hd => by simp [upF, addF, hd], lstF_congr (f := upF acc pt s many k true) (f' := addF acc pt s many true) fun d hd => by simp [upF, addF, hd]]
/-- one side's parts are added -/
theorem side_go {k : Nat} {acc pt : Bool → Nat → Nat} {s : Bool} {many : Nat} (hp : ∀ d, d < k → pt s d ≤ 600) {D : DE} {c0 c1 c2 c3 c4 c5 c6 c7 c9 c10 c11 c12 c14 c16 c17 : Cell}
    (hD : ∀ c16 c17, D.nx [c0, c1, c2, c3, c4, c5, c6, c7, o2 k (addF acc pt s many), c9, c10, c11, c12, .dat (eN many), c14, .dat (.int (if s then 1 else 0)), c16, c17]) :
    forGo (dgTup 2 (dgCons (dgName 16) (dgCons (dgName 17) dgNil))) (dAug2 8 (dVar 15) (dVar 16) (dOp (dIc CMul fun i j => PyData.int (i * j)) (dVar 13) (dVar 17))) (enD 0 (lstF k (pt s))) D
      [c0, c1, c2, c3, c4, c5, c6, c7, o2 k acc, c9, c10, c11, c12, .dat (eN many), c14, .dat (.int (if s then 1 else 0)), c16, c17] := by
  unfold lstF
  rw [enD_num (fun d => eN (pt s d))]
  refine for_ind (enc := fun q : Nat × Nat => PyData.tuple [eN q.1, eN (pt s q.2)]) (fun j ρ => ∃ c16 c17, ρ = [c0, c1, c2, c3, c4, c5, c6, c7, o2 k (upF acc pt s many j), c9, c10, c11, c12, .dat (eN many), c14, .dat (.int (if s then 1 else 0)), c16, c17]) (num 0 (List.range k)) 0 _ ⟨c16, c17, by rw [upF_zero]⟩ (fun j q ρ hj hI K2 hK2 => ?_) (fun ρ hI => ?_)
  · obtain ⟨c16, c17, rfl⟩ := hI
    rw [Nat.zero_add] at hK2 ⊢
    have hjk : j < k := by
      have := (List.getElem?_eq_some_iff.mp hj).1
      rwa [num_len, List.length_range] at this
    obtain rfl : q = (j, j) := by
      rw [num_get, List.getElem?_range hjk] at hj
      simp at hj
      exact hj.symm
    have hpt := hp j hjk
    have hm : CMul (many : Int) ((pt s j : Nat) : Int) := .inr ⟨by omega, by omega⟩
    have k1 := hK2 _ ⟨.dat (eN j), .dat (eN (pt s j)), rfl⟩
    refine ⟨_, rfl, rfl, ?_⟩
    repeat (first | refine ⟨_, rfl, ?_⟩ | refine ⟨_, _, rfl, rfl, ?_⟩ | refine ⟨_, _, _, .inr rfl, rfl, rfl, ?_⟩ | refine ⟨_, _, _, .inl rfl, rfl, rfl, ?_⟩ | refine ⟨_, .inr rfl, ?_⟩ | refine ⟨_, .inl rfl, ?_⟩ | refine ⟨(by intro s z; cases z), ?_⟩ | refine ⟨Nat.le_of_ble_eq_true rfl, ?_⟩ | refine ⟨rfl, ?_⟩ | refine iteT ?_ | refine iteF ?_ | refine ⟨_, _, rfl, ?_⟩ | refine ⟨_, _, _, rfl, ?_⟩)
    cases s with
    | false =>
      refine ⟨j, _, rfl, lstF_get hjk, ?_⟩
      repeat (first | refine ⟨_, rfl, ?_⟩ | refine ⟨_, _, rfl, rfl, ?_⟩ | refine ⟨_, _, _, .inr rfl, rfl, rfl, ?_⟩ | refine ⟨_, _, _, .inl rfl, rfl, rfl, ?_⟩ | refine ⟨_, .inr rfl, ?_⟩ | refine ⟨_, .inl rfl, ?_⟩ | refine ⟨(by intro s z; cases z), ?_⟩ | refine ⟨Nat.le_of_ble_eq_true rfl, ?_⟩ | refine ⟨rfl, ?_⟩ | refine iteT ?_ | refine iteF ?_ | refine ⟨_, _, rfl, ?_⟩ | refine ⟨_, _, _, rfl, ?_⟩)
      refine ⟨hm, ?_⟩
      repeat (first | refine ⟨_, rfl, ?_⟩ | refine ⟨_, _, rfl, rfl, ?_⟩ | refine ⟨_, _, _, .inr rfl, rfl, rfl, ?_⟩ | refine ⟨_, _, _, .inl rfl, rfl, rfl, ?_⟩ | refine ⟨_, .inr rfl, ?_⟩ | refine ⟨_, .inl rfl, ?_⟩ | refine ⟨(by intro s z; cases z), ?_⟩ | refine ⟨Nat.le_of_ble_eq_true rfl, ?_⟩ | refine ⟨rfl, ?_⟩ | refine iteT ?_ | refine iteF ?_ | refine ⟨_, _, rfl, ?_⟩ | refine ⟨_, _, _, rfl, ?_⟩)
      refine byEnv ?_ k1
      show [c0, c1, c2, c3, c4, c5, c6, c7, .own2 ((lstF k (upF acc pt false many j false)).set j (.int (((upF acc pt false many j false j : Nat) : Int) + (many : Int) * (pt false j : Int)))) (lstF k (upF acc pt false many j true)), c9, c10, c11, c12, .dat (eN many), c14, .dat (.int 0), .dat (eN j), .dat (eN (pt false j))] = _
      rw [upF_set hjk, ← upF_other (s' := true) (s := false) (by decide)]
      rfl
    | true =>
      refine ⟨j, _, rfl, lstF_get hjk, ?_⟩
      repeat (first | refine ⟨_, rfl, ?_⟩ | refine ⟨_, _, rfl, rfl, ?_⟩ | refine ⟨_, _, _, .inr rfl, rfl, rfl, ?_⟩ | refine ⟨_, _, _, .inl rfl, rfl, rfl, ?_⟩ | refine ⟨_, .inr rfl, ?_⟩ | refine ⟨_, .inl rfl, ?_⟩ | refine ⟨(by intro s z; cases z), ?_⟩ | refine ⟨Nat.le_of_ble_eq_true rfl, ?_⟩ | refine ⟨rfl, ?_⟩ | refine iteT ?_ | refine iteF ?_ | refine ⟨_, _, rfl, ?_⟩ | refine ⟨_, _, _, rfl, ?_⟩)
      refine ⟨hm, ?_⟩
      repeat (first | refine ⟨_, rfl, ?_⟩ | refine ⟨_, _, rfl, rfl, ?_⟩ | refine ⟨_, _, _, .inr rfl, rfl, rfl, ?_⟩ | refine ⟨_, _, _, .inl rfl, rfl, rfl, ?_⟩ | refine ⟨_, .inr rfl, ?_⟩ | refine ⟨_, .inl rfl, ?_⟩ | refine ⟨(by intro s z; cases z), ?_⟩ | refine ⟨Nat.le_of_ble_eq_true rfl, ?_⟩ | refine ⟨rfl, ?_⟩ | refine iteT ?_ | refine iteF ?_ | refine ⟨_, _, rfl, ?_⟩ | refine ⟨_, _, _, rfl, ?_⟩)
      refine byEnv ?_ k1
      show [c0, c1, c2, c3, c4, c5, c6, c7, .own2 (lstF k (upF acc pt true many j false)) ((lstF k (upF acc pt true many j true)).set j (.int (((upF acc pt true many j true j : Nat) : Int) + (many : Int) * (pt true j : Int)))), c9, c10, c11, c12, .dat (eN many), c14, .dat (.int 1), .dat (eN j), .dat (eN (pt true j))] = _
      rw [upF_set hjk, ← upF_other (s' := false) (s := true) (by decide)]
      rfl
  · obtain ⟨c16, c17, rfl⟩ := hI
    rw [Nat.zero_add, num_len, List.length_range, upF_all]
    exact hD _ _
theorem zipD_map {α : Type} (f g : α → PyData) : ∀ xs : List α, zipD (xs.map f) (xs.map g) = xs.map fun x => PyData.tuple [f x, g x]
  | [] => rfl
  | x :: xs => by rw [List.map_cons, List.map_cons, zipD, zipD_map, List.map_cons]
theorem addF_two (acc pt : Bool → Nat → Nat) (many : Nat) : addF (addF acc pt false many) pt true many = fun s d => acc s d + many * pt s d := by
  funext s d
  cases s <;> simp [addF]
def tabT (b : Book) (k c : Nat) (e : Bool) : PyData := .tuple [.list (lstF k (tabE b c e false)), .list (lstF k (tabE b c e true))]
def accC (b : Book) (acc : Bool → Nat → Nat) (cf : Nat → Nat) (e : Bool) (i : Nat) : Bool → Nat → Nat := fun s d => acc s d + sumK i fun c => cf c * tabE b c e s d
/-- one end's kinds are added -/
theorem kind_go {b : Book} {k : Nat} {acc : Bool → Nat → Nat} {cf : Nat → Nat} {e : Bool} (hp : ∀ c s d, c < k → tabE b c e s d ≤ 600) {D : DE} {c0 c1 c2 c3 c4 c5 c6 c7 c9 c10 c11 c12 c13 c14 c15 c16 c17 : Cell}
    (hD : ∀ c13 c14 c15 c16 c17, D.nx [c0, c1, c2, c3, c4, c5, c6, c7, o2 k (accC b acc cf e k), c9, c10, c11, c12, c13, c14, c15, c16, c17]) :
    forGo (dgTup 2 (dgCons (dgName 13) (dgCons (dgName 14) dgNil))) (dFor (dTupl (dTup (dCons (dC (.int 0)) (dCons (dC (.int 1)) dNil)))) (dgName 15) (dFor (dEnum (dOp dIx (dVar 14) (dVar 15))) (dgTup 2 (dgCons (dgName 16) (dgCons (dgName 17) dgNil))) (dAug2 8 (dVar 15) (dVar 16) (dOp (dIc CMul fun i j => PyData.int (i * j)) (dVar 13) (dVar 17)))))
      (zipD (lstF k cf) ((List.range k).map fun c => tabT b k c e)) D [c0, c1, c2, c3, c4, c5, c6, c7, o2 k acc, c9, c10, c11, c12, c13, c14, c15, c16, c17] := by
  unfold lstF
  rw [zipD_map (fun c => eN (cf c)) fun c => tabT b k c e]
  refine for_ind (enc := fun c : Nat => PyData.tuple [eN (cf c), tabT b k c e]) (fun i ρ => ∃ c13 c14 c15 c16 c17, ρ = [c0, c1, c2, c3, c4, c5, c6, c7, o2 k (accC b acc cf e i), c9, c10, c11, c12, c13, c14, c15, c16, c17]) (List.range k) 0 _ ⟨c13, c14, c15, c16, c17, ?_⟩ (fun i j ρ hi hI K2 hK2 => ?_) (fun ρ hI => ?_)
  · have : accC b acc cf e 0 = acc := by
      funext s d
      simp [accC, sumK]
    rw [this]
  · obtain ⟨c13, c14, c15, c16, c17, rfl⟩ := hI
    rw [Nat.zero_add] at hK2 ⊢
    obtain ⟨hlt, rfl⟩ : i < k ∧ j = i := by
      have h1 := (List.getElem?_eq_some_iff.mp hi).1
      rw [List.length_range] at h1
      rw [List.getElem?_range h1] at hi
      exact ⟨h1, (Option.some.inj hi).symm⟩
    repeat (first | refine ⟨_, rfl, ?_⟩ | refine ⟨_, _, rfl, rfl, ?_⟩ | refine ⟨_, _, _, .inr rfl, rfl, rfl, ?_⟩ | refine ⟨_, _, _, .inl rfl, rfl, rfl, ?_⟩ | refine ⟨_, .inr rfl, ?_⟩ | refine ⟨_, .inl rfl, ?_⟩ | refine ⟨(by intro s z; cases z), ?_⟩ | refine ⟨Nat.le_of_ble_eq_true rfl, ?_⟩ | refine ⟨rfl, ?_⟩ | refine iteT ?_ | refine iteF ?_ | refine ⟨_, _, rfl, ?_⟩ | refine ⟨_, _, _, rfl, ?_⟩)
    refine side_go (k := k) (acc := accC b acc cf e j) (pt := tabE b j e) (s := false) (many := cf j) (fun d hd => hp j false d hlt) fun c16 c17 => ?_
    repeat (first | refine ⟨_, rfl, ?_⟩ | refine ⟨_, _, rfl, rfl, ?_⟩ | refine ⟨_, _, _, .inr rfl, rfl, rfl, ?_⟩ | refine ⟨_, _, _, .inl rfl, rfl, rfl, ?_⟩ | refine ⟨_, .inr rfl, ?_⟩ | refine ⟨_, .inl rfl, ?_⟩ | refine ⟨(by intro s z; cases z), ?_⟩ | refine ⟨Nat.le_of_ble_eq_true rfl, ?_⟩ | refine ⟨rfl, ?_⟩ | refine iteT ?_ | refine iteF ?_ | refine ⟨_, _, rfl, ?_⟩ | refine ⟨_, _, _, rfl, ?_⟩)
    refine side_go (k := k) (acc := addF (accC b acc cf e j) (tabE b j e) false (cf j)) (pt := tabE b j e) (s := true) (many := cf j) (fun d hd => hp j true d hlt) fun c16 c17 => ?_
    repeat (first | refine ⟨_, rfl, ?_⟩ | refine ⟨_, _, rfl, rfl, ?_⟩ | refine ⟨_, _, _, .inr rfl, rfl, rfl, ?_⟩ | refine ⟨_, _, _, .inl rfl, rfl, rfl, ?_⟩ | refine ⟨_, .inr rfl, ?_⟩ | refine ⟨_, .inl rfl, ?_⟩ | refine ⟨(by intro s z; cases z), ?_⟩ | refine ⟨Nat.le_of_ble_eq_true rfl, ?_⟩ | refine ⟨rfl, ?_⟩ | refine iteT ?_ | refine iteF ?_ | refine ⟨_, _, rfl, ?_⟩ | refine ⟨_, _, _, rfl, ?_⟩)
    rw [addF_two]
    refine byEnv ?_ (hK2 _ ⟨.dat (eN (cf j)), .dat (tabT b k j e), .dat (.int 1), c16, c17, rfl⟩)
    have : accC b acc cf e (j + 1) = fun s d => accC b acc cf e j s d + cf j * tabE b j e s d := by
      funext s d
      simp [accC, sumK_succ, Nat.add_assoc]
    rw [this]
    rfl
  · obtain ⟨c13, c14, c15, c16, c17, rfl⟩ := hI
    rw [Nat.zero_add, List.length_range]
    exact hD _ _ _ _ _
def cntD (k : Nat) (f : Bool → Nat → Nat) : PyData := .tuple [.list (lstF k (f false)), .list (lstF k (f true))]
theorem book_range (b : Book) : (List.range b.length).map (kd b) = b := by
  refine List.ext_getElem? fun i => ?_
  by_cases h : i < b.length
  · rw [List.getElem?_map, List.getElem?_range h, kd_get h]
    rfl
  · rw [List.getElem?_eq_none (by simp; omega), List.getElem?_eq_none (by omega)]
theorem tables_of (b : Book) (e : Bool) : (b.map fun w => PyData.tuple [.list ((cntL w.2 false (if e then 1 else 0) b.length).map eN), .list ((cntL w.2 true (if e then 1 else 0) b.length).map eN)]) = (List.range b.length).map fun c => tabT b b.length c e := by
  conv => lhs; arg 2; rw [← book_range b]
  rw [List.map_map]
  refine List.map_congr_left fun c _ => ?_
  show PyData.tuple _ = _
  rw [cntL_lstF, cntL_lstF]
  rfl
theorem cntE_le (ts : List Tie) (s : Bool) (p d : Nat) : cntE ts s p d ≤ ts.length := List.countP_le_length
section
variable {P : Program} {w : World} {K : PySem.W.Frag} {mg : Str → Option Value} {base : Heap} {T : List (Addr × Str)}
def phi_degrees : Phi := fun ds Q => ∃ g a n, ds = [eGar g, eAdr a, eN n] ∧ GarOk g ∧ AdrOk g a ∧ a.1.length ≤ n ∧ n ≤ 900 ∧ Q (.tuple [.tuple (lstF g.2.length (degF g a (n - a.1.length) false)), .tuple (lstF g.2.length (degF g a (n - a.1.length) true))])
abbrev s_degrees : Stmt := topS 50
theorem sc_degrees : FnScope ["garden", "address", "n", "kinds", "counts", "tables", "turn", "book", "made", "end", "row", "place", "growth", "many", "parts", "side", "kind", "part"] ["garden", "address", "n"] (defScope s_degrees) := ⟨rfl, rfl, rfl, by decide +kernel, rfl, by decide +kernel, by decide +kernel⟩
theorem ok_degrees {f : Addr} {fd : FuncData} (F : Fun K "degrees" "degrees" s_degrees f fd) (N : Nms mg) (h_need_born : Has P w K mg base "need_born" 9 ["garden", "address", "n"] (sp3 ⟨T, none⟩ phi_need_born)) (h_ends_counted : Has P w K mg base "ends_counted" 1 ["web", "place", "kinds"] (sp3 ⟨T, none⟩ phi_ends_counted)) (h_web_around : Has P w K mg base "web_around" 5 ["garden", "row"] (sp3 ⟨T, none⟩ phi_web_around)) : FnOk P w K mg base CX0 10 f fd ["garden", "address", "n"] (sp3 ⟨T, none⟩ phi_degrees) := by
  refine fn3 F sc_degrees (fun ds QD h => ?_) (fun cdv A outer s H E hr => ⟨_, _, (by exact qss_cons (qs_expr (q_call h_need_born (hr.mono (by decide)) (qa_cons (q_var 0) (qa_cons (q_var 1) (qa_cons (q_var 2) qa_nil))))) (qss_cons (qs_asg (q_tup (qa_cons (q_ixK (q_var 0) q_int) (qa_cons (q_var 1) qa_nil))) (qg_tupK (n := 2) rfl (qgs_cons (qg_name (i := 7) sc_degrees.nd) (qgs_cons (qg_tupK (n := 2) rfl (qgs_cons (qg_name (i := 10) sc_degrees.nd) (qgs_cons (qg_name (i := 11) sc_degrees.nd) qgs_nil))) qgs_nil)))) (qss_cons (qs_set (i := 3) sc_degrees.nd (q_cb call_lenK l_len rfl N.len PySem.boot_len (qa_cons (q_var 7) qa_nil))) (qss_cons (qs_set (i := 4) sc_degrees.nd (q_call h_ends_counted (hr.mono (by decide)) (qa_cons (q_call h_web_around (hr.mono (by decide)) (qa_cons (q_var 0) (qa_cons (q_var 10) qa_nil))) (qa_cons (q_var 11) (qa_cons (q_var 3) qa_nil))))) (qss_cons (qs_setLcD (i := 5) rfl sc_degrees.nd rfl rfl (sw_true rfl rfl rfl (by decide +kernel)) (own := [("end", 9)]) (qi_tupK (q_tup (qa_cons q_int (qa_cons q_int qa_nil)))) (blkOk_by (by rfl)) (fun _ _ _ _ _ => (qg_name (i := 9) sc_degrees.nd)) (fun _ _ _ _ _ => qts_nil) (fun _ _ _ _ _ => (PDL.pde (ql_lc rfl sc_degrees.nd (own := [("growth", 12)]) (qi_tupK (q_var 7)) (blkOk_by (by rfl)) (fun _ _ _ _ _ => (qg_name (i := 12) sc_degrees.nd)) (fun _ _ _ _ _ => qts_nil) (fun _ _ _ _ _ => (q_call h_ends_counted (hr.mono (by decide)) (qa_cons (q_var 12) (qa_cons (q_var 9) (qa_cons (q_var 3) qa_nil))))) (by decide) s))) (by decide) s) (qss_cons (qs_for PassesOwn.never rfl (qi_rng1 rfl N.range (q_sub (q_var 2) (q_cb call_lenK l_len rfl N.len PySem.boot_len (qa_cons (q_var 10) qa_nil)))) (qg_name (i := 6) sc_degrees.nd) (qss_cons (qs_set2 (i := 8) sc_degrees.nd (ql_rep (PDL.pde (ql_lst (qa_cons q_int qa_nil))) (q_var 3)) (ql_rep (PDL.pde (ql_lst (qa_cons q_int qa_nil))) (q_var 3))) (qss_cons (qs_for PassesOwn.never rfl (qi_tupK (q_tup (qa_cons q_int (qa_cons q_int qa_nil)))) (qg_name (i := 9) sc_degrees.nd) (qss_one (qs_for PassesOwn.never rfl (qi_zip rfl N.zip (q_ixK (q_var 4) (q_var 9)) (q_ixK (q_var 5) (q_var 9))) (qg_tupK (n := 2) rfl (qgs_cons (qg_name (i := 13) sc_degrees.nd) (qgs_cons (qg_name (i := 14) sc_degrees.nd) qgs_nil))) (qss_one (qs_for PassesOwn.never rfl (qi_tupK (q_tup (qa_cons q_int (qa_cons q_int qa_nil)))) (qg_name (i := 15) sc_degrees.nd) (qss_one (qs_for PassesOwn.never rfl (qi_enumK rfl N.enumerate (q_ixK (q_var 14) (q_var 15))) (qg_tupK (n := 2) rfl (qgs_cons (qg_name (i := 16) sc_degrees.nd) (qgs_cons (qg_name (i := 17) sc_degrees.nd) qgs_nil))) (qss_one (qs_aug2 8 (q_var 15) (q_var 16) (q_mul (q_var 13) (q_var 17))))))))))) (qss_fz2 8 (qss_one (qs_set (i := 4) sc_degrees.nd (q_var 8))))))) (qss_one (qs_ret (q_cty call_tuple_of l_tuple rfl N.tuple bt_tuple (qa_cons (PDL.pde (ql_lc rfl sc_degrees.nd (own := [("row", 10)]) (qi_tupK (q_var 4)) (blkOk_by (by rfl)) (fun _ _ _ _ _ => (qg_name (i := 10) sc_degrees.nd)) (fun _ _ _ _ _ => qts_nil) (fun _ _ _ _ _ => (q_cty call_tuple_of l_tuple rfl N.tuple bt_tuple (qa_cons (q_var 10) qa_nil))) (by decide) s)) qa_nil)))))))))), fun ds QD h => ?_⟩)
  · obtain ⟨g, a, n, rfl, _⟩ := h; rfl
  · obtain ⟨g, a, n, rfl, ok, aok, hl, hn, h⟩ := h
    have hrow : RowIn g.2 g.1 a.1 := by
      rcases aok with ⟨h1, _⟩ | ⟨_, h1, _⟩
      · rw [h1]; exact True.intro
      · exact h1
    have har : WebOk (around g a.1) ∧ Below (around g a.1) g.2.length := by
      unfold around
      by_cases e : a.1 = []
      · rw [if_pos e]
        exact ⟨ok.start, ok.below⟩
      · rw [if_neg e]
        have := ok.book.webs _ (kd_mem (kindOf_lt ok e hrow))
        exact ⟨this.1, this.2.2⟩
    have hk := ok.book.few
    repeat (first | refine ⟨_, rfl, ?_⟩ | refine ⟨_, _, rfl, rfl, ?_⟩ | refine ⟨_, _, _, .inr rfl, rfl, rfl, ?_⟩ | refine ⟨_, _, _, .inl rfl, rfl, rfl, ?_⟩ | refine ⟨_, .inr rfl, ?_⟩ | refine ⟨_, .inl rfl, ?_⟩ | refine ⟨(by intro s z; cases z), ?_⟩ | refine ⟨Nat.le_of_ble_eq_true rfl, ?_⟩ | refine ⟨rfl, ?_⟩ | refine iteT ?_ | refine iteF ?_ | refine ⟨_, _, rfl, ?_⟩ | refine ⟨_, _, _, rfl, ?_⟩)
    refine ⟨ok, aok, hl, ?_⟩
    repeat (first | refine ⟨_, rfl, ?_⟩ | refine ⟨_, _, rfl, rfl, ?_⟩ | refine ⟨_, _, _, .inr rfl, rfl, rfl, ?_⟩ | refine ⟨_, _, _, .inl rfl, rfl, rfl, ?_⟩ | refine ⟨_, .inr rfl, ?_⟩ | refine ⟨_, .inl rfl, ?_⟩ | refine ⟨(by intro s z; cases z), ?_⟩ | refine ⟨Nat.le_of_ble_eq_true rfl, ?_⟩ | refine ⟨rfl, ?_⟩ | refine iteT ?_ | refine iteF ?_ | refine ⟨_, _, rfl, ?_⟩ | refine ⟨_, _, _, rfl, ?_⟩)
    refine ⟨ok, hrow, by omega, ?_⟩
    repeat (first | refine ⟨_, rfl, ?_⟩ | refine ⟨_, _, rfl, rfl, ?_⟩ | refine ⟨_, _, _, .inr rfl, rfl, rfl, ?_⟩ | refine ⟨_, _, _, .inl rfl, rfl, rfl, ?_⟩ | refine ⟨_, .inr rfl, ?_⟩ | refine ⟨_, .inl rfl, ?_⟩ | refine ⟨(by intro s z; cases z), ?_⟩ | refine ⟨Nat.le_of_ble_eq_true rfl, ?_⟩ | refine ⟨rfl, ?_⟩ | refine iteT ?_ | refine iteF ?_ | refine ⟨_, _, rfl, ?_⟩ | refine ⟨_, _, _, rfl, ?_⟩)
    refine ⟨by rw [List.length_map]; exact har.2, by rw [List.length_map]; exact hk, ?_⟩
    repeat (first | refine ⟨_, rfl, ?_⟩ | refine ⟨_, _, rfl, rfl, ?_⟩ | refine ⟨_, _, _, .inr rfl, rfl, rfl, ?_⟩ | refine ⟨_, _, _, .inl rfl, rfl, rfl, ?_⟩ | refine ⟨_, .inr rfl, ?_⟩ | refine ⟨_, .inl rfl, ?_⟩ | refine ⟨(by intro s z; cases z), ?_⟩ | refine ⟨Nat.le_of_ble_eq_true rfl, ?_⟩ | refine ⟨rfl, ?_⟩ | refine iteT ?_ | refine iteF ?_ | refine ⟨_, _, rfl, ?_⟩ | refine ⟨_, _, _, rfl, ?_⟩)
    have hkl : (List.map eWeb g.2).length = g.2.length := List.length_map ..
    rw [hkl]
    have bel3 : ∀ v ∈ g.2, Below v g.2.length := fun v hv => (ok.book.webs v hv).2.2
    refine lc_map (enc := eWeb) (f := fun v => PyData.tuple [.list ((cntL v.2 false (if false then 1 else 0) g.2.length).map eN), .list ((cntL v.2 true (if false then 1 else 0) g.2.length).map eN)]) g.2 [] (by simp; omega) (fun v hv K1 hK1 => ?_) ?_
    · repeat (first | refine ⟨_, rfl, ?_⟩ | refine ⟨_, _, rfl, rfl, ?_⟩ | refine ⟨_, _, _, .inr rfl, rfl, rfl, ?_⟩ | refine ⟨_, _, _, .inl rfl, rfl, rfl, ?_⟩ | refine ⟨_, .inr rfl, ?_⟩ | refine ⟨_, .inl rfl, ?_⟩ | refine ⟨(by intro s z; cases z), ?_⟩ | refine ⟨Nat.le_of_ble_eq_true rfl, ?_⟩ | refine ⟨rfl, ?_⟩ | refine iteT ?_ | refine iteF ?_ | refine ⟨_, _, rfl, ?_⟩ | refine ⟨_, _, _, rfl, ?_⟩)
      exact ⟨bel3 v hv, hk, hK1⟩
    repeat (first | refine ⟨_, rfl, ?_⟩ | refine ⟨_, _, rfl, rfl, ?_⟩ | refine ⟨_, _, _, .inr rfl, rfl, rfl, ?_⟩ | refine ⟨_, _, _, .inl rfl, rfl, rfl, ?_⟩ | refine ⟨_, .inr rfl, ?_⟩ | refine ⟨_, .inl rfl, ?_⟩ | refine ⟨(by intro s z; cases z), ?_⟩ | refine ⟨Nat.le_of_ble_eq_true rfl, ?_⟩ | refine ⟨rfl, ?_⟩ | refine iteT ?_ | refine iteF ?_ | refine ⟨_, _, rfl, ?_⟩ | refine ⟨_, _, _, rfl, ?_⟩)
    refine lc_map (enc := eWeb) (f := fun v => PyData.tuple [.list ((cntL v.2 false (if true then 1 else 0) g.2.length).map eN), .list ((cntL v.2 true (if true then 1 else 0) g.2.length).map eN)]) g.2 [] (by simp; omega) (fun v hv K1 hK1 => ?_) ?_
    · repeat (first | refine ⟨_, rfl, ?_⟩ | refine ⟨_, _, rfl, rfl, ?_⟩ | refine ⟨_, _, _, .inr rfl, rfl, rfl, ?_⟩ | refine ⟨_, _, _, .inl rfl, rfl, rfl, ?_⟩ | refine ⟨_, .inr rfl, ?_⟩ | refine ⟨_, .inl rfl, ?_⟩ | refine ⟨(by intro s z; cases z), ?_⟩ | refine ⟨Nat.le_of_ble_eq_true rfl, ?_⟩ | refine ⟨rfl, ?_⟩ | refine iteT ?_ | refine iteF ?_ | refine ⟨_, _, rfl, ?_⟩ | refine ⟨_, _, _, rfl, ?_⟩)
      exact ⟨bel3 v hv, hk, hK1⟩
    repeat (first | refine ⟨_, rfl, ?_⟩ | refine ⟨_, _, rfl, rfl, ?_⟩ | refine ⟨_, _, _, .inr rfl, rfl, rfl, ?_⟩ | refine ⟨_, _, _, .inl rfl, rfl, rfl, ?_⟩ | refine ⟨_, .inr rfl, ?_⟩ | refine ⟨_, .inl rfl, ?_⟩ | refine ⟨(by intro s z; cases z), ?_⟩ | refine ⟨Nat.le_of_ble_eq_true rfl, ?_⟩ | refine ⟨rfl, ?_⟩ | refine iteT ?_ | refine iteF ?_ | refine ⟨_, _, rfl, ?_⟩ | refine ⟨_, _, _, rfl, ?_⟩)
    rw [tables_of, tables_of]
    refine ⟨by simp; omega, by simp; omega, ?_⟩
    have er : rgN 0 ((n : Int) - ((List.map eN a.1).length : Nat)).toNat = (List.range (n - a.1.length)).map eN := by
      rw [List.length_map, ← rgN0]
      congr 1
      omega
    rw [er]
    refine for_ind (enc := eN) (fun i ρ => ∃ c6 c8 c9 c12 c13 c14 c15 c16 c17, ρ = [.dat (eGar g), .dat (eAdr a), .dat (eN n), .dat (eN g.2.length), .dat (cntD g.2.length (degF g a i)), .dat (.list [.list ((List.range g.2.length).map fun c => tabT g.2 g.2.length c false), .list ((List.range g.2.length).map fun c => tabT g.2 g.2.length c true)]), c6, .dat (eBook g.2), c8, c9, .dat (eRow a.1), .dat (eN a.2), c12, c13, c14, c15, c16, c17]) (List.range (n - a.1.length)) 0 _ ⟨.un, .un, .un, .un, .un, .un, .un, .un, .un, ?_⟩ (fun i j ρ hi hI K' hK => ?_) (fun ρ hI => ?_)
    · rw [cntL_lstF, cntL_lstF]
      rfl
    · obtain ⟨c6, c8, c9, c12, c13, c14, c15, c16, c17, rfl⟩ := hI
      rw [Nat.zero_add] at hK ⊢
      obtain ⟨hlt, rfl⟩ : i < n - a.1.length ∧ j = i := by
        have h1 := (List.getElem?_eq_some_iff.mp hi).1
        rw [List.length_range] at h1
        rw [List.getElem?_range h1] at hi
        exact ⟨h1, (Option.some.inj hi).symm⟩
      have hp : ∀ (e : Bool) (c : Nat) (s : Bool) (d : Nat), c < g.2.length → tabE g.2 c e s d ≤ 600 := fun e c s d hc => Nat.le_trans (cntE_le _ _ _ _) (ok.book.webs _ (kd_mem hc)).1.few
      have hlen : ∀ e s : Bool, (lstF g.2.length (degF g a j s)).length = ((List.range g.2.length).map fun c => tabT g.2 g.2.length c e).length := fun e s => by simp [lstF]
      repeat (first | refine ⟨_, rfl, ?_⟩ | refine ⟨_, _, rfl, rfl, ?_⟩ | refine ⟨_, _, _, .inr rfl, rfl, rfl, ?_⟩ | refine ⟨_, _, _, .inl rfl, rfl, rfl, ?_⟩ | refine ⟨_, .inr rfl, ?_⟩ | refine ⟨_, .inl rfl, ?_⟩ | refine ⟨(by intro s z; cases z), ?_⟩ | refine ⟨Nat.le_of_ble_eq_true rfl, ?_⟩ | refine ⟨rfl, ?_⟩ | refine iteT ?_ | refine iteF ?_ | refine ⟨_, _, rfl, ?_⟩ | refine ⟨_, _, _, rfl, ?_⟩)
      refine ⟨by omega, ?_⟩
      repeat (first | refine ⟨_, rfl, ?_⟩ | refine ⟨_, _, rfl, rfl, ?_⟩ | refine ⟨_, _, _, .inr rfl, rfl, rfl, ?_⟩ | refine ⟨_, _, _, .inl rfl, rfl, rfl, ?_⟩ | refine ⟨_, .inr rfl, ?_⟩ | refine ⟨_, .inl rfl, ?_⟩ | refine ⟨(by intro s z; cases z), ?_⟩ | refine ⟨Nat.le_of_ble_eq_true rfl, ?_⟩ | refine ⟨rfl, ?_⟩ | refine iteT ?_ | refine iteF ?_ | refine ⟨_, _, rfl, ?_⟩ | refine ⟨_, _, _, rfl, ?_⟩)
      refine ⟨by omega, ?_⟩
      repeat (first | refine ⟨_, rfl, ?_⟩ | refine ⟨_, _, rfl, rfl, ?_⟩ | refine ⟨_, _, _, .inr rfl, rfl, rfl, ?_⟩ | refine ⟨_, _, _, .inl rfl, rfl, rfl, ?_⟩ | refine ⟨_, .inr rfl, ?_⟩ | refine ⟨_, .inl rfl, ?_⟩ | refine ⟨(by intro s z; cases z), ?_⟩ | refine ⟨Nat.le_of_ble_eq_true rfl, ?_⟩ | refine ⟨rfl, ?_⟩ | refine iteT ?_ | refine iteF ?_ | refine ⟨_, _, rfl, ?_⟩ | refine ⟨_, _, _, rfl, ?_⟩)
      refine ⟨hlen false false, ?_⟩
      rw [lstF_nil]
      refine kind_go (b := g.2) (k := g.2.length) (acc := fun _ _ => 0) (cf := degF g a j false) (e := false) (hp false) fun c13 c14 c15 c16 c17 => ?_
      repeat (first | refine ⟨_, rfl, ?_⟩ | refine ⟨_, _, rfl, rfl, ?_⟩ | refine ⟨_, _, _, .inr rfl, rfl, rfl, ?_⟩ | refine ⟨_, _, _, .inl rfl, rfl, rfl, ?_⟩ | refine ⟨_, .inr rfl, ?_⟩ | refine ⟨_, .inl rfl, ?_⟩ | refine ⟨(by intro s z; cases z), ?_⟩ | refine ⟨Nat.le_of_ble_eq_true rfl, ?_⟩ | refine ⟨rfl, ?_⟩ | refine iteT ?_ | refine iteF ?_ | refine ⟨_, _, rfl, ?_⟩ | refine ⟨_, _, _, rfl, ?_⟩)
      refine ⟨hlen true true, ?_⟩
      refine kind_go (b := g.2) (k := g.2.length) (acc := accC g.2 (fun _ _ => 0) (degF g a j false) false g.2.length) (cf := degF g a j true) (e := true) (hp true) fun c13 c14 c15 c16 c17 => ?_
      repeat (first | refine ⟨_, rfl, ?_⟩ | refine ⟨_, _, rfl, rfl, ?_⟩ | refine ⟨_, _, _, .inr rfl, rfl, rfl, ?_⟩ | refine ⟨_, _, _, .inl rfl, rfl, rfl, ?_⟩ | refine ⟨_, .inr rfl, ?_⟩ | refine ⟨_, .inl rfl, ?_⟩ | refine ⟨(by intro s z; cases z), ?_⟩ | refine ⟨Nat.le_of_ble_eq_true rfl, ?_⟩ | refine ⟨rfl, ?_⟩ | refine iteT ?_ | refine iteF ?_ | refine ⟨_, _, rfl, ?_⟩ | refine ⟨_, _, _, rfl, ?_⟩)
      refine byEnv ?_ (hK _ ⟨.dat (eN j), .dat (cntD g.2.length (degF g a (j + 1))), .dat (.int 1), c12, c13, c14, c15, c16, c17, rfl⟩)
      have e : accC g.2 (accC g.2 (fun _ _ => 0) (degF g a j false) false g.2.length) (degF g a j true) true g.2.length = degF g a (j + 1) := by
        funext s d
        simp [accC, degF, dstep]
      rw [e]
      rfl
    · obtain ⟨c6, c8, c9, c12, c13, c14, c15, c16, c17, rfl⟩ := hI
      rw [Nat.zero_add, List.length_range]
      repeat (first | refine ⟨_, rfl, ?_⟩ | refine ⟨_, _, rfl, rfl, ?_⟩ | refine ⟨_, _, _, .inr rfl, rfl, rfl, ?_⟩ | refine ⟨_, _, _, .inl rfl, rfl, rfl, ?_⟩ | refine ⟨_, .inr rfl, ?_⟩ | refine ⟨_, .inl rfl, ?_⟩ | refine ⟨(by intro s z; cases z), ?_⟩ | refine ⟨Nat.le_of_ble_eq_true rfl, ?_⟩ | refine ⟨rfl, ?_⟩ | refine iteT ?_ | refine iteF ?_ | refine ⟨_, _, rfl, ?_⟩ | refine ⟨_, _, _, rfl, ?_⟩)
      exact h
end
end L3
namespace L3
open PySem L2
open PySem.Spec
theorem filt_go {b b' : Bool} {A B : Prop} : b = b' → (b' = true → A) → (b' = false → B) → (match b with
    | true => A
    | false => B) := by
  intro e h1 h2
  subst e
  cases b with
  | true => exact h1 rfl
  | false => exact h2 rfl
theorem dec_nat (a b : Nat) : decide ((a : Int) = (b : Int)) = decide (a = b) := by
  by_cases h : a = b
  · subst h
    simp
  · rw [decide_eq_false h, decide_eq_false (by omega)]
section
variable {P : Program} {w : World} {K : PySem.W.Frag} {mg : Str → Option Value} {base : Heap} {T : List (Addr × Str)}
def phi__law_in : Phi := fun ds Q => ∃ (n : Nat) (t : Tie) (rest : List PyData) (x : Nat), ds = [eN n, .tuple (eN t.1 :: eN t.2.1 :: rest), eN x] ∧ Q (eN (nm t n x))
abbrev s__law_in : Stmt := topS 65
theorem sc__law_in : FnScope ["_law_base", "_law_tie_here", "_law_place"] ["_law_base", "_law_tie_here", "_law_place"] (defScope s__law_in) := ⟨rfl, rfl, rfl, by decide +kernel, rfl, by decide +kernel, by decide +kernel⟩
theorem ok__law_in {f : Addr} {fd : FuncData} (F : Fun K "_law_in" "_law_in" s__law_in f fd) (N : Nms mg)  : FnOk P w K mg base CX0 1 f fd ["_law_base", "_law_tie_here", "_law_place"] (sp3 ⟨T, none⟩ phi__law_in) := by
  refine fn3 F sc__law_in (fun ds QD h => ?_) (fun cdv A outer s H E hr => ⟨_, _, (by exact qss_one (qs_ret (q_ifExp (qt_cmp op_lt l_lt (by decide) (by decide) (q_var 2) q_int) (q_ixK (q_var 1) (q_var 2)) (q_sub (q_add (q_var 0) (q_var 2)) q_int)))), fun ds QD h => ?_⟩)
  · obtain ⟨n, t, rest, x, rfl, _⟩ := h; rfl
  · obtain ⟨n, t, rest, x, rfl, h⟩ := h
    repeat (first | refine ⟨_, rfl, ?_⟩ | refine ⟨_, _, rfl, rfl, ?_⟩ | refine ⟨_, _, _, .inr rfl, rfl, rfl, ?_⟩ | refine ⟨_, _, _, .inl rfl, rfl, rfl, ?_⟩ | refine ⟨_, .inr rfl, ?_⟩ | refine ⟨_, .inl rfl, ?_⟩ | refine ⟨(by intro s z; cases z), ?_⟩ | refine ⟨Nat.le_of_ble_eq_true rfl, ?_⟩ | refine ⟨rfl, ?_⟩ | refine iteT ?_ | refine iteF ?_ | refine ⟨_, _, rfl, ?_⟩ | refine ⟨_, _, _, rfl, ?_⟩)
    by_cases hx : x < 2
    · refine iteB (decide_eq_true (by omega)) ?_
      repeat (first | refine ⟨_, rfl, ?_⟩ | refine ⟨_, _, rfl, rfl, ?_⟩ | refine ⟨_, _, _, .inr rfl, rfl, rfl, ?_⟩ | refine ⟨_, _, _, .inl rfl, rfl, rfl, ?_⟩ | refine ⟨_, .inr rfl, ?_⟩ | refine ⟨_, .inl rfl, ?_⟩ | refine ⟨(by intro s z; cases z), ?_⟩ | refine ⟨Nat.le_of_ble_eq_true rfl, ?_⟩ | refine ⟨rfl, ?_⟩ | refine iteT ?_ | refine iteF ?_ | refine ⟨_, _, rfl, ?_⟩ | refine ⟨_, _, _, rfl, ?_⟩)
      match x, hx with
      | 0, _ => exact ⟨_, _, _, .inr rfl, rfl, atI_nat rfl, h⟩
      | 1, _ => exact ⟨_, _, _, .inr rfl, rfl, atI_nat rfl, h⟩
    · refine iteN (decide_eq_false (by omega)) ?_
      repeat (first | refine ⟨_, rfl, ?_⟩ | refine ⟨_, _, rfl, rfl, ?_⟩ | refine ⟨_, _, _, .inr rfl, rfl, rfl, ?_⟩ | refine ⟨_, _, _, .inl rfl, rfl, rfl, ?_⟩ | refine ⟨_, .inr rfl, ?_⟩ | refine ⟨_, .inl rfl, ?_⟩ | refine ⟨(by intro s z; cases z), ?_⟩ | refine ⟨Nat.le_of_ble_eq_true rfl, ?_⟩ | refine ⟨rfl, ?_⟩ | refine iteT ?_ | refine iteF ?_ | refine ⟨_, _, rfl, ?_⟩ | refine ⟨_, _, _, rfl, ?_⟩)
      refine byEq (Q := QD) h ?_
      unfold nm eN
      rw [if_neg (by omega), if_neg (by omega)]
      simp
      omega
def phi__law_round : Phi := fun ds Q => ∃ v b, ds = [eWeb v, eBook b] ∧ v.2.length ≤ 10 ∧ Below v b.length ∧ (∀ u ∈ b, 2 ≤ u.1 ∧ u.2.length ≤ 600) ∧ Q (eWeb (lround b v))
abbrev s__law_round : Stmt := topS 66
theorem sc__law_round : FnScope ["_law_web_here", "_law_book_here", "_law_tie_here", "_law_places", "_law_ties", "_law_many_here", "_law_near", "_law_a", "_law_b", "_law_c"] ["_law_web_here", "_law_book_here"] (defScope s__law_round) := ⟨rfl, rfl, rfl, by decide +kernel, rfl, by decide +kernel, by decide +kernel⟩
theorem ok__law_round {f : Addr} {fd : FuncData} (F : Fun K "_law_round" "_law_round" s__law_round f fd) (N : Nms mg) (h__law_in : Has P w K mg base "_law_in" 1 ["_law_base", "_law_tie_here", "_law_place"] (sp3 ⟨T, none⟩ phi__law_in)) : FnOk P w K mg base CX0 2 f fd ["_law_web_here", "_law_book_here"] (sp3 ⟨T, none⟩ phi__law_round) := by
  refine fn3 F sc__law_round (fun ds QD h => ?_) (fun cdv A outer s H E hr => ⟨_, _, (by have hu := hr.units; exact qss_cons (qs_tupL (i := 3) (j := 4) sc__law_round.nd rfl (by decide) (q_ixK (q_var 0) q_int) (ql_lst qa_nil)) (qss_cons (qs_for PassesOwn.never rfl (qi_tupK (q_ixK (q_var 0) q_int)) (qg_name (i := 2) sc__law_round.nd) (qss_cons (qs_asg (q_ixK (q_var 1) (q_ixK (q_var 2) q_int)) (qg_tupK (n := 2) rfl (qgs_cons (qg_name (i := 5) sc__law_round.nd) (qgs_cons (qg_name (i := 6) sc__law_round.nd) qgs_nil)))) (qss_cons (qs_ext 4 (PDL.pde (ql_lc rfl sc__law_round.nd (own := [("_law_a", 7), ("_law_b", 8), ("_law_c", 9)]) (qi_tupK (q_var 6)) (blkOk_by (by rfl)) (fun _ _ _ _ _ => (qg_tupK (n := 3) rfl (qgs_cons (qg_name (i := 7) sc__law_round.nd) (qgs_cons (qg_name (i := 8) sc__law_round.nd) (qgs_cons (qg_name (i := 9) sc__law_round.nd) qgs_nil))))) (fun _ _ _ _ _ => qts_nil) (fun _ _ _ _ _ => (q_tup (qa_cons (q_call h__law_in (hr.mono (by decide)) (qa_cons (q_var 3) (qa_cons (q_var 2) (qa_cons (q_var 7) qa_nil)))) (qa_cons (q_call h__law_in (hr.mono (by decide)) (qa_cons (q_var 3) (qa_cons (q_var 2) (qa_cons (q_var 8) qa_nil)))) (qa_cons (q_var 9) qa_nil))))) (by decide) s))) (qss_one (qs_set (i := 3) sc__law_round.nd (q_sub (q_add (q_var 3) (q_var 5)) q_int)))))) (qss_fz 4 (qss_one (qs_ret (q_tup (qa_cons (q_var 3) (qa_cons (q_cty call_tuple_of l_tuple rfl N.tuple bt_tuple (qa_cons (PDL.pde (ql_sorted hu rfl N.sorted (q_var 4))) qa_nil)) qa_nil)))))))), fun ds QD h => ?_⟩)
  · obtain ⟨v, b, rfl, _⟩ := h; rfl
  · obtain ⟨v, b, rfl, few, bel, hb, h⟩ := h
    repeat (first | refine ⟨_, rfl, ?_⟩ | refine ⟨_, _, rfl, rfl, ?_⟩ | refine ⟨_, _, _, .inr rfl, rfl, rfl, ?_⟩ | refine ⟨_, _, _, .inl rfl, rfl, rfl, ?_⟩ | refine ⟨_, .inr rfl, ?_⟩ | refine ⟨_, .inl rfl, ?_⟩ | refine ⟨(by intro s z; cases z), ?_⟩ | refine ⟨Nat.le_of_ble_eq_true rfl, ?_⟩ | refine ⟨rfl, ?_⟩ | refine iteT ?_ | refine iteF ?_ | refine ⟨_, _, rfl, ?_⟩ | refine ⟨_, _, _, rfl, ?_⟩)
    have fb : ∀ ps : List (Tie × Row), (∀ p ∈ ps, p.1.2.2 < b.length) → ∀ n, (foundR b n ps).length ≤ 600 * ps.length := by
      intro ps
      induction ps with
      | nil => intro _ n; simp [foundR]
      | cons p ps ih =>
        intro hp n
        have h1 := (hb _ (kd_mem (hp p List.mem_cons_self))).2
        have h2 := ih (fun q hq => hp q (List.mem_cons_of_mem _ hq)) (n + inn b p.1.2.2)
        rw [foundR, List.length_append, kids_len, List.length_cons]
        omega
    have hbare : ∀ i, ∀ p ∈ bare (v.2.take i), p.1.2.2 < b.length := fun i p hp => by
      obtain ⟨t, ht, rfl⟩ := List.mem_map.mp hp
      exact bel t (List.mem_of_mem_take ht)
    have hlen : ∀ i, (fsts (foundR b v.1 (bare (v.2.take i)))).length ≤ 6000 := fun i => by
      have h1 := fb _ (hbare i) v.1
      have h2 : (bare (v.2.take i)).length ≤ 10 := by simp [bare]; omega
      simp [fsts]
      omega
    refine for_ind (enc := eTie) (fun i ρ => ∃ c2 c5 c6 c7 c8 c9, ρ = [.dat (eWeb v), .dat (eBook b), c2, .dat (eN (endR b v.1 (bare (v.2.take i)))), .own ((fsts (foundR b v.1 (bare (v.2.take i)))).map eTie), c5, c6, c7, c8, c9]) v.2 0 _ ⟨.un, .un, .un, .un, .un, .un, rfl⟩ (fun i t ρ hi hI K' hK => ?_) (fun ρ hI => ?_)
    · obtain ⟨c2, c5, c6, c7, c8, c9, rfl⟩ := hI
      rw [Nat.zero_add] at hK ⊢
      have hc := bel _ (List.mem_of_getElem? hi)
      obtain ⟨k1, k2⟩ := hb _ (kd_mem hc)
      have l1 := hlen i
      repeat (first | refine ⟨_, rfl, ?_⟩ | refine ⟨_, _, rfl, rfl, ?_⟩ | refine ⟨_, _, _, .inr rfl, rfl, rfl, ?_⟩ | refine ⟨_, _, _, .inl rfl, rfl, rfl, ?_⟩ | refine ⟨_, .inr rfl, ?_⟩ | refine ⟨_, .inl rfl, ?_⟩ | refine ⟨(by intro s z; cases z), ?_⟩ | refine ⟨Nat.le_of_ble_eq_true rfl, ?_⟩ | refine ⟨rfl, ?_⟩ | refine iteT ?_ | refine iteF ?_ | refine ⟨_, _, rfl, ?_⟩ | refine ⟨_, _, _, rfl, ?_⟩)
      refine ix_book hc ?_
      repeat (first | refine ⟨_, rfl, ?_⟩ | refine ⟨_, _, rfl, rfl, ?_⟩ | refine ⟨_, _, _, .inr rfl, rfl, rfl, ?_⟩ | refine ⟨_, _, _, .inl rfl, rfl, rfl, ?_⟩ | refine ⟨_, .inr rfl, ?_⟩ | refine ⟨_, .inl rfl, ?_⟩ | refine ⟨(by intro s z; cases z), ?_⟩ | refine ⟨Nat.le_of_ble_eq_true rfl, ?_⟩ | refine ⟨rfl, ?_⟩ | refine iteT ?_ | refine iteF ?_ | refine ⟨_, _, rfl, ?_⟩ | refine ⟨_, _, _, rfl, ?_⟩)
      refine lc_map (enc := eTie) (f := fun s => eTie (nm t (endR b v.1 (bare (v.2.take i))) s.1, nm t (endR b v.1 (bare (v.2.take i))) s.2.1, s.2.2)) (kd b t.2.2).2 [] (by simp; omega) (fun s hs K1 hK1 => ?_) ?_
      · repeat (first | refine ⟨_, rfl, ?_⟩ | refine ⟨_, _, rfl, rfl, ?_⟩ | refine ⟨_, _, _, .inr rfl, rfl, rfl, ?_⟩ | refine ⟨_, _, _, .inl rfl, rfl, rfl, ?_⟩ | refine ⟨_, .inr rfl, ?_⟩ | refine ⟨_, .inl rfl, ?_⟩ | refine ⟨(by intro s z; cases z), ?_⟩ | refine ⟨Nat.le_of_ble_eq_true rfl, ?_⟩ | refine ⟨rfl, ?_⟩ | refine iteT ?_ | refine iteF ?_ | refine ⟨_, _, rfl, ?_⟩ | refine ⟨_, _, _, rfl, ?_⟩)
        refine ⟨_, t, [eN t.2.2], _, rfl, ?_⟩
        repeat (first | refine ⟨_, rfl, ?_⟩ | refine ⟨_, _, rfl, rfl, ?_⟩ | refine ⟨_, _, _, .inr rfl, rfl, rfl, ?_⟩ | refine ⟨_, _, _, .inl rfl, rfl, rfl, ?_⟩ | refine ⟨_, .inr rfl, ?_⟩ | refine ⟨_, .inl rfl, ?_⟩ | refine ⟨(by intro s z; cases z), ?_⟩ | refine ⟨Nat.le_of_ble_eq_true rfl, ?_⟩ | refine ⟨rfl, ?_⟩ | refine iteT ?_ | refine iteF ?_ | refine ⟨_, _, rfl, ?_⟩ | refine ⟨_, _, _, rfl, ?_⟩)
        refine ⟨_, t, [eN t.2.2], _, rfl, ?_⟩
        repeat (first | refine ⟨_, rfl, ?_⟩ | refine ⟨_, _, rfl, rfl, ?_⟩ | refine ⟨_, _, _, .inr rfl, rfl, rfl, ?_⟩ | refine ⟨_, _, _, .inl rfl, rfl, rfl, ?_⟩ | refine ⟨_, .inr rfl, ?_⟩ | refine ⟨_, .inl rfl, ?_⟩ | refine ⟨(by intro s z; cases z), ?_⟩ | refine ⟨Nat.le_of_ble_eq_true rfl, ?_⟩ | refine ⟨rfl, ?_⟩ | refine iteT ?_ | refine iteF ?_ | refine ⟨_, _, rfl, ?_⟩ | refine ⟨_, _, _, rfl, ?_⟩)
        exact hK1
      · repeat (first | refine ⟨_, rfl, ?_⟩ | refine ⟨_, _, rfl, rfl, ?_⟩ | refine ⟨_, _, _, .inr rfl, rfl, rfl, ?_⟩ | refine ⟨_, _, _, .inl rfl, rfl, rfl, ?_⟩ | refine ⟨_, .inr rfl, ?_⟩ | refine ⟨_, .inl rfl, ?_⟩ | refine ⟨(by intro s z; cases z), ?_⟩ | refine ⟨Nat.le_of_ble_eq_true rfl, ?_⟩ | refine ⟨rfl, ?_⟩ | refine iteT ?_ | refine iteF ?_ | refine ⟨_, _, rfl, ?_⟩ | refine ⟨_, _, _, rfl, ?_⟩)
        refine ⟨by simp; omega, ?_⟩
        repeat (first | refine ⟨_, rfl, ?_⟩ | refine ⟨_, _, rfl, rfl, ?_⟩ | refine ⟨_, _, _, .inr rfl, rfl, rfl, ?_⟩ | refine ⟨_, _, _, .inl rfl, rfl, rfl, ?_⟩ | refine ⟨_, .inr rfl, ?_⟩ | refine ⟨_, .inl rfl, ?_⟩ | refine ⟨(by intro s z; cases z), ?_⟩ | refine ⟨Nat.le_of_ble_eq_true rfl, ?_⟩ | refine ⟨rfl, ?_⟩ | refine iteT ?_ | refine iteF ?_ | refine ⟨_, _, rfl, ?_⟩ | refine ⟨_, _, _, rfl, ?_⟩)
        have e1 : bare (v.2.take (i + 1)) = bare (v.2.take i) ++ [(t, [])] := by rw [take_succ hi]; simp [bare]
        refine byEnv ?_ (hK _ ⟨.dat (eTie t), .dat (eN (kd b t.2.2).1), .dat (.tuple ((kd b t.2.2).2.map eTie)), c7, c8, c9, rfl⟩)
        rw [e1, endR_app, foundR_app]
        have e2 : kids b (endR b v.1 (bare (v.2.take i))) (t, []) = (num 0 (kd b t.2.2).2).map (kidOf (t, []) (endR b v.1 (bare (v.2.take i)))) := rfl
        have e3 : (num 0 (kd b t.2.2).2).map (fun q => eTie (nm t (endR b v.1 (bare (v.2.take i))) q.2.1, nm t (endR b v.1 (bare (v.2.take i))) q.2.2.1, q.2.2.2)) = (kd b t.2.2).2.map fun s => eTie (nm t (endR b v.1 (bare (v.2.take i))) s.1, nm t (endR b v.1 (bare (v.2.take i))) s.2.1, s.2.2) := by
          conv => rhs; rw [← num_snd 0 (kd b t.2.2).2]
          rw [List.map_map]
          rfl
        have e4 : (((endR b v.1 (bare (v.2.take i)) : Nat) : Int) + ((kd b t.2.2).1 : Int) - 2) = ((endR b v.1 (bare (v.2.take i)) + inn b t.2.2 : Nat) : Int) := by
          unfold inn
          omega
        simp [foundR, endR, fsts, e2, kidOf, eN, e4, Function.comp_def]
        exact ⟨e3.symm, rfl⟩
    · obtain ⟨c2, c5, c6, c7, c8, c9, rfl⟩ := hI
      have l1 := hlen v.2.length
      rw [List.take_length] at l1
      rw [Nat.zero_add, List.take_length]
      repeat (first | refine ⟨_, rfl, ?_⟩ | refine ⟨_, _, rfl, rfl, ?_⟩ | refine ⟨_, _, _, .inr rfl, rfl, rfl, ?_⟩ | refine ⟨_, _, _, .inl rfl, rfl, rfl, ?_⟩ | refine ⟨_, .inr rfl, ?_⟩ | refine ⟨_, .inl rfl, ?_⟩ | refine ⟨(by intro s z; cases z), ?_⟩ | refine ⟨Nat.le_of_ble_eq_true rfl, ?_⟩ | refine ⟨rfl, ?_⟩ | refine iteT ?_ | refine iteF ?_ | refine ⟨_, _, rfl, ?_⟩ | refine ⟨_, _, _, rfl, ?_⟩)
      refine ⟨sortOk enc_tie (fun b => ⟨_, _, rfl⟩) (by omega), ?_⟩
      rw [srtD_map]
      repeat (first | refine ⟨_, rfl, ?_⟩ | refine ⟨_, _, rfl, rfl, ?_⟩ | refine ⟨_, _, _, .inr rfl, rfl, rfl, ?_⟩ | refine ⟨_, _, _, .inl rfl, rfl, rfl, ?_⟩ | refine ⟨_, .inr rfl, ?_⟩ | refine ⟨_, .inl rfl, ?_⟩ | refine ⟨(by intro s z; cases z), ?_⟩ | refine ⟨Nat.le_of_ble_eq_true rfl, ?_⟩ | refine ⟨rfl, ?_⟩ | refine iteT ?_ | refine iteF ?_ | refine ⟨_, _, rfl, ?_⟩ | refine ⟨_, _, _, rfl, ?_⟩)
      exact h
def phi__law_many : Phi := fun ds Q => ∃ v k, ds = [eWeb v, eN k] ∧ v.2.length ≤ 6000 ∧ k ≤ 3 ∧ Q (.list (lstF k (manyF v.2)))
abbrev s__law_many : Stmt := topS 67
theorem sc__law_many : FnScope ["_law_web_here", "_law_kinds", "_law_c", "_law_tie_here"] ["_law_web_here", "_law_kinds"] (defScope s__law_many) := ⟨rfl, rfl, rfl, by decide +kernel, rfl, by decide +kernel, by decide +kernel⟩
theorem ok__law_many {f : Addr} {fd : FuncData} (F : Fun K "_law_many" "_law_many" s__law_many f fd) (N : Nms mg)  : FnOk P w K mg base CX0 1 f fd ["_law_web_here", "_law_kinds"] (sp3 ⟨T, none⟩ phi__law_many) := by
  refine fn3 F sc__law_many (fun ds QD h => ?_) (fun cdv A outer s H E hr => ⟨_, _, (by exact qss_one (qs_ret (PDL.pde (ql_lc rfl sc__law_many.nd (own := [("_law_c", 2)]) (qi_rng1 rfl N.range (q_var 1)) (blkOk_by (by rfl)) (fun _ _ _ _ _ => (qg_name (i := 2) sc__law_many.nd)) (fun _ _ _ _ _ => qts_nil) (fun _ _ _ _ _ => (q_cb call_lenK l_len rfl N.len PySem.boot_len (qa_cons (PDL.pde (ql_lc rfl sc__law_many.nd (own := [("_law_tie_here", 3)]) (qi_tupK (q_ixK (q_var 0) q_int)) (blkOk_by (by rfl)) (fun _ _ _ _ _ => (qg_name (i := 3) sc__law_many.nd)) (fun _ _ _ _ _ => (qts_one (qt_cmp op_eq l_eqI (by decide) (by decide) (q_ixK (q_var 3) q_int) (q_var 2)))) (fun _ _ _ _ _ => (q_var 3)) (by decide) s)) qa_nil))) (by decide) s)))), fun ds QD h => ?_⟩)
  · obtain ⟨v, k, rfl, _⟩ := h; rfl
  · obtain ⟨v, k, rfl, few, hk, h⟩ := h
    repeat (first | refine ⟨_, rfl, ?_⟩ | refine ⟨_, _, rfl, rfl, ?_⟩ | refine ⟨_, _, _, .inr rfl, rfl, rfl, ?_⟩ | refine ⟨_, _, _, .inl rfl, rfl, rfl, ?_⟩ | refine ⟨_, .inr rfl, ?_⟩ | refine ⟨_, .inl rfl, ?_⟩ | refine ⟨(by intro s z; cases z), ?_⟩ | refine ⟨Nat.le_of_ble_eq_true rfl, ?_⟩ | refine ⟨rfl, ?_⟩ | refine iteT ?_ | refine iteF ?_ | refine ⟨_, _, rfl, ?_⟩ | refine ⟨_, _, _, rfl, ?_⟩)
    refine ⟨by omega, by omega, ?_⟩
    rw [rgN0]
    refine lc_map (enc := eN) (f := fun c => eN (manyF v.2 c)) (List.range k) [] (by simp; omega) (fun c hc K1 hK1 => ?_) ?_
    · repeat (first | refine ⟨_, rfl, ?_⟩ | refine ⟨_, _, rfl, rfl, ?_⟩ | refine ⟨_, _, _, .inr rfl, rfl, rfl, ?_⟩ | refine ⟨_, _, _, .inl rfl, rfl, rfl, ?_⟩ | refine ⟨_, .inr rfl, ?_⟩ | refine ⟨_, .inl rfl, ?_⟩ | refine ⟨(by intro s z; cases z), ?_⟩ | refine ⟨Nat.le_of_ble_eq_true rfl, ?_⟩ | refine ⟨rfl, ?_⟩ | refine iteT ?_ | refine iteF ?_ | refine ⟨_, _, rfl, ?_⟩ | refine ⟨_, _, _, rfl, ?_⟩)
      refine lc_filter (enc := eTie) (f := eTie) (p := fun t => decide (t.2.2 = c)) v.2 [] (by simp; omega) (fun t ht K2 K3 h1 h2 => ?_) ?_
      · repeat (first | refine ⟨_, rfl, ?_⟩ | refine ⟨_, _, rfl, rfl, ?_⟩ | refine ⟨_, _, _, .inr rfl, rfl, rfl, ?_⟩ | refine ⟨_, _, _, .inl rfl, rfl, rfl, ?_⟩ | refine ⟨_, .inr rfl, ?_⟩ | refine ⟨_, .inl rfl, ?_⟩ | refine ⟨(by intro s z; cases z), ?_⟩ | refine ⟨Nat.le_of_ble_eq_true rfl, ?_⟩ | refine ⟨rfl, ?_⟩ | refine iteT ?_ | refine iteF ?_ | refine ⟨_, _, rfl, ?_⟩ | refine ⟨_, _, _, rfl, ?_⟩)
        refine filt_go (b' := decide (t.2.2 = c)) (dec_nat _ _) (fun z => ?_) (fun z => h2 z)
        repeat (first | refine ⟨_, rfl, ?_⟩ | refine ⟨_, _, rfl, rfl, ?_⟩ | refine ⟨_, _, _, .inr rfl, rfl, rfl, ?_⟩ | refine ⟨_, _, _, .inl rfl, rfl, rfl, ?_⟩ | refine ⟨_, .inr rfl, ?_⟩ | refine ⟨_, .inl rfl, ?_⟩ | refine ⟨(by intro s z; cases z), ?_⟩ | refine ⟨Nat.le_of_ble_eq_true rfl, ?_⟩ | refine ⟨rfl, ?_⟩ | refine iteT ?_ | refine iteF ?_ | refine ⟨_, _, rfl, ?_⟩ | refine ⟨_, _, _, rfl, ?_⟩)
        exact h1 z
      · repeat (first | refine ⟨_, rfl, ?_⟩ | refine ⟨_, _, rfl, rfl, ?_⟩ | refine ⟨_, _, _, .inr rfl, rfl, rfl, ?_⟩ | refine ⟨_, _, _, .inl rfl, rfl, rfl, ?_⟩ | refine ⟨_, .inr rfl, ?_⟩ | refine ⟨_, .inl rfl, ?_⟩ | refine ⟨(by intro s z; cases z), ?_⟩ | refine ⟨Nat.le_of_ble_eq_true rfl, ?_⟩ | refine ⟨rfl, ?_⟩ | refine iteT ?_ | refine iteF ?_ | refine ⟨_, _, rfl, ?_⟩ | refine ⟨_, _, _, rfl, ?_⟩)
        refine byEq (Q := K1) hK1 ?_
        simp [manyF, List.countP_eq_length_filter, eN]
    · exact h
def tblD (b : Book) : PyData := .list ((List.range b.length).map fun c => .tuple [eN (inn b c), .list (lstF b.length (manyF (kd b c).2))])
def phi__law_table : Phi := fun ds Q => ∃ b, ds = [eBook b] ∧ BookOk b ∧ Q (tblD b)
abbrev s__law_table : Stmt := topS 68
theorem sc__law_table : FnScope ["_law_book_here", "_law_growth_here"] ["_law_book_here"] (defScope s__law_table) := ⟨rfl, rfl, rfl, by decide +kernel, rfl, by decide +kernel, by decide +kernel⟩
theorem ok__law_table {f : Addr} {fd : FuncData} (F : Fun K "_law_table" "_law_table" s__law_table f fd) (N : Nms mg) (h__law_many : Has P w K mg base "_law_many" 1 ["_law_web_here", "_law_kinds"] (sp3 ⟨T, none⟩ phi__law_many)) : FnOk P w K mg base CX0 2 f fd ["_law_book_here"] (sp3 ⟨T, none⟩ phi__law_table) := by
  refine fn3 F sc__law_table (fun ds QD h => ?_) (fun cdv A outer s H E hr => ⟨_, _, (by exact qss_one (qs_ret (PDL.pde (ql_lc rfl sc__law_table.nd (own := [("_law_growth_here", 1)]) (qi_tupK (q_var 0)) (blkOk_by (by rfl)) (fun _ _ _ _ _ => (qg_name (i := 1) sc__law_table.nd)) (fun _ _ _ _ _ => qts_nil) (fun _ _ _ _ _ => (q_tup (qa_cons (q_sub (q_ixK (q_var 1) q_int) q_int) (qa_cons (q_call h__law_many (hr.mono (by decide)) (qa_cons (q_var 1) (qa_cons (q_cb call_lenK l_len rfl N.len PySem.boot_len (qa_cons (q_var 0) qa_nil)) qa_nil))) qa_nil)))) (by decide) s)))), fun ds QD h => ?_⟩)
  · obtain ⟨b, rfl, _⟩ := h; rfl
  · obtain ⟨b, rfl, ok, h⟩ := h
    have hk := ok.few
    have hkl : (List.map eWeb b).length = b.length := List.length_map ..
    repeat (first | refine ⟨_, rfl, ?_⟩ | refine ⟨_, _, rfl, rfl, ?_⟩ | refine ⟨_, _, _, .inr rfl, rfl, rfl, ?_⟩ | refine ⟨_, _, _, .inl rfl, rfl, rfl, ?_⟩ | refine ⟨_, .inr rfl, ?_⟩ | refine ⟨_, .inl rfl, ?_⟩ | refine ⟨(by intro s z; cases z), ?_⟩ | refine ⟨Nat.le_of_ble_eq_true rfl, ?_⟩ | refine ⟨rfl, ?_⟩ | refine iteT ?_ | refine iteF ?_ | refine ⟨_, _, rfl, ?_⟩ | refine ⟨_, _, _, rfl, ?_⟩)
    refine lc_map (enc := eWeb) (f := fun v => .tuple [eN (v.1 - 2), .list (lstF b.length (manyF v.2))]) b [] (by simp; omega) (fun v hv K1 hK1 => ?_) ?_
    · obtain ⟨k1, k2, k3⟩ := ok.webs v hv
      have := k1.few
      repeat (first | refine ⟨_, rfl, ?_⟩ | refine ⟨_, _, rfl, rfl, ?_⟩ | refine ⟨_, _, _, .inr rfl, rfl, rfl, ?_⟩ | refine ⟨_, _, _, .inl rfl, rfl, rfl, ?_⟩ | refine ⟨_, .inr rfl, ?_⟩ | refine ⟨_, .inl rfl, ?_⟩ | refine ⟨(by intro s z; cases z), ?_⟩ | refine ⟨Nat.le_of_ble_eq_true rfl, ?_⟩ | refine ⟨rfl, ?_⟩ | refine iteT ?_ | refine iteF ?_ | refine ⟨_, _, rfl, ?_⟩ | refine ⟨_, _, _, rfl, ?_⟩)
      refine ⟨by omega, by rw [hkl]; exact hk, ?_⟩
      repeat (first | refine ⟨_, rfl, ?_⟩ | refine ⟨_, _, rfl, rfl, ?_⟩ | refine ⟨_, _, _, .inr rfl, rfl, rfl, ?_⟩ | refine ⟨_, _, _, .inl rfl, rfl, rfl, ?_⟩ | refine ⟨_, .inr rfl, ?_⟩ | refine ⟨_, .inl rfl, ?_⟩ | refine ⟨(by intro s z; cases z), ?_⟩ | refine ⟨Nat.le_of_ble_eq_true rfl, ?_⟩ | refine ⟨rfl, ?_⟩ | refine iteT ?_ | refine iteF ?_ | refine ⟨_, _, rfl, ?_⟩ | refine ⟨_, _, _, rfl, ?_⟩)
      refine byEq (Q := K1) hK1 ?_
      rw [hkl]
      simp [eN]
      omega
    · refine byEq (Q := QD) h ?_
      unfold tblD
      conv => rhs; arg 1; arg 2; arg 2; rw [← book_range b]
      rw [List.map_map]
      rfl
def phi__law_counted : Phi := fun ds Q => ∃ b n f, ds = [tblD b, eN n, .list (lstF b.length f)] ∧ BookOk b ∧ Q (.tuple [eN (n + sumK b.length fun c => f c * inn b c), .list (lstF b.length fun d => sumK b.length fun c => f c * manyF (kd b c).2 d)])
abbrev s__law_counted : Stmt := topS 69
theorem sc__law_counted : FnScope ["_law_table_here", "_law_places", "_law_many_here", "_law_c", "_law_inner", "_law_near", "_law_d"] ["_law_table_here", "_law_places", "_law_many_here"] (defScope s__law_counted) := ⟨rfl, rfl, rfl, by decide +kernel, rfl, by decide +kernel, by decide +kernel⟩
theorem ok__law_counted {f : Addr} {fd : FuncData} (F : Fun K "_law_counted" "_law_counted" s__law_counted f fd) (N : Nms mg)  : FnOk P w K mg base CX0 1 f fd ["_law_table_here", "_law_places", "_law_many_here"] (sp3 ⟨T, none⟩ phi__law_counted) := by
  refine fn3 F sc__law_counted (fun ds QD h => ?_) (fun cdv A outer s H E hr => ⟨_, _, (by exact qss_cons (qs_for PassesOwn.never rfl (qi_enumK rfl N.enumerate (q_var 0)) (qg_tupK (n := 2) rfl (qgs_cons (qg_name (i := 3) sc__law_counted.nd) (qgs_cons (qg_tupK (n := 2) rfl (qgs_cons (qg_name (i := 4) sc__law_counted.nd) (qgs_cons (qg_name (i := 5) sc__law_counted.nd) qgs_nil))) qgs_nil))) (qss_one (qs_set (i := 1) sc__law_counted.nd (q_add (q_var 1) (q_mul (q_ixK (q_var 2) (q_var 3)) (q_var 4)))))) (qss_one (qs_ret (q_tup (qa_cons (q_var 1) (qa_cons (PDL.pde (ql_lc rfl sc__law_counted.nd (own := [("_law_d", 6)]) (qi_rng1 rfl N.range (q_cb call_lenK l_len rfl N.len PySem.boot_len (qa_cons (q_var 0) qa_nil))) (blkOk_by (by rfl)) (fun _ _ _ _ _ => (qg_name (i := 6) sc__law_counted.nd)) (fun _ _ _ _ _ => qts_nil) (fun _ _ _ _ _ => (q_cb (cr_sumK rfl) l_sum rfl N.sum bt_sum (qa_cons (PDL.pde (ql_lc rfl sc__law_counted.nd (own := [("_law_c", 3), ("_law_inner", 4), ("_law_near", 5)]) (qi_enumK rfl N.enumerate (q_var 0)) (blkOk_by (by rfl)) (fun _ _ _ _ _ => (qg_tupK (n := 2) rfl (qgs_cons (qg_name (i := 3) sc__law_counted.nd) (qgs_cons (qg_tupK (n := 2) rfl (qgs_cons (qg_name (i := 4) sc__law_counted.nd) (qgs_cons (qg_name (i := 5) sc__law_counted.nd) qgs_nil))) qgs_nil)))) (fun _ _ _ _ _ => qts_nil) (fun _ _ _ _ _ => (q_mul (q_ixK (q_var 2) (q_var 3)) (q_ixK (q_var 5) (q_var 6)))) (by decide) s)) qa_nil))) (by decide) s)) qa_nil)))))), fun ds QD h => ?_⟩)
  · obtain ⟨b, n, f, rfl, _⟩ := h; rfl
  · obtain ⟨b, n, f, rfl, ok, h⟩ := h
    have hk := ok.few
    have hin : ∀ c, c < b.length → inn b c ≤ 400 := fun c hc => by
      have := (ok.webs _ (kd_mem hc)).1.small
      unfold inn
      omega
    have hmany : ∀ c d, c < b.length → manyF (kd b c).2 d ≤ 600 := fun c d hc => Nat.le_trans (manyF_le _ _) (ok.webs _ (kd_mem hc)).1.few
    have rowOf : enD 0 ((List.range b.length).map fun c => PyData.tuple [eN (inn b c), .list (lstF b.length (manyF (kd b c).2))]) = (List.range b.length).map fun c => PyData.tuple [eN c, .tuple [eN (inn b c), .list (lstF b.length (manyF (kd b c).2))]] := by
      rw [enD_num (fun c => PyData.tuple [eN (inn b c), .list (lstF b.length (manyF (kd b c).2))])]
      refine List.ext_getElem? fun i => ?_
      rw [List.getElem?_map, List.getElem?_map, num_get]
      by_cases hi : i < b.length
      · rw [List.getElem?_range hi]
        simp
      · rw [List.getElem?_eq_none (by simp; omega)]
        rfl
    repeat (first | refine ⟨_, rfl, ?_⟩ | refine ⟨_, _, rfl, rfl, ?_⟩ | refine ⟨_, _, _, .inr rfl, rfl, rfl, ?_⟩ | refine ⟨_, _, _, .inl rfl, rfl, rfl, ?_⟩ | refine ⟨_, .inr rfl, ?_⟩ | refine ⟨_, .inl rfl, ?_⟩ | refine ⟨(by intro s z; cases z), ?_⟩ | refine ⟨Nat.le_of_ble_eq_true rfl, ?_⟩ | refine ⟨rfl, ?_⟩ | refine iteT ?_ | refine iteF ?_ | refine ⟨_, _, rfl, ?_⟩ | refine ⟨_, _, _, rfl, ?_⟩)
    rw [rowOf]
    refine for_ind (enc := fun c : Nat => PyData.tuple [eN c, .tuple [eN (inn b c), .list (lstF b.length (manyF (kd b c).2))]]) (fun i ρ => ∃ c3 c4 c5 c6, ρ = [.dat (tblD b), .dat (eN (n + sumK i fun c => f c * inn b c)), .dat (.list (lstF b.length f)), c3, c4, c5, c6]) (List.range b.length) 0 _ ⟨.un, .un, .un, .un, rfl⟩ (fun i j ρ hi hI K' hK => ?_) (fun ρ hI => ?_)
    · obtain ⟨c3, c4, c5, c6, rfl⟩ := hI
      rw [Nat.zero_add] at hK ⊢
      obtain ⟨hlt, rfl⟩ : i < b.length ∧ j = i := by
        have h1 := (List.getElem?_eq_some_iff.mp hi).1
        rw [List.length_range] at h1
        rw [List.getElem?_range h1] at hi
        exact ⟨h1, (Option.some.inj hi).symm⟩
      have hi4 := hin j hlt
      repeat (first | refine ⟨_, rfl, ?_⟩ | refine ⟨_, _, rfl, rfl, ?_⟩ | refine ⟨_, _, _, .inr rfl, rfl, rfl, ?_⟩ | refine ⟨_, _, _, .inl rfl, rfl, rfl, ?_⟩ | refine ⟨_, .inr rfl, ?_⟩ | refine ⟨_, .inl rfl, ?_⟩ | refine ⟨(by intro s z; cases z), ?_⟩ | refine ⟨Nat.le_of_ble_eq_true rfl, ?_⟩ | refine ⟨rfl, ?_⟩ | refine iteT ?_ | refine iteF ?_ | refine ⟨_, _, rfl, ?_⟩ | refine ⟨_, _, _, rfl, ?_⟩)
      refine ⟨_, _, _, .inl rfl, rfl, atI_nat (lstF_get hlt), ?_⟩
      repeat (first | refine ⟨_, rfl, ?_⟩ | refine ⟨_, _, rfl, rfl, ?_⟩ | refine ⟨_, _, _, .inr rfl, rfl, rfl, ?_⟩ | refine ⟨_, _, _, .inl rfl, rfl, rfl, ?_⟩ | refine ⟨_, .inr rfl, ?_⟩ | refine ⟨_, .inl rfl, ?_⟩ | refine ⟨(by intro s z; cases z), ?_⟩ | refine ⟨Nat.le_of_ble_eq_true rfl, ?_⟩ | refine ⟨rfl, ?_⟩ | refine iteT ?_ | refine iteF ?_ | refine ⟨_, _, rfl, ?_⟩ | refine ⟨_, _, _, rfl, ?_⟩)
      refine ⟨.inr ⟨by omega, by omega⟩, ?_⟩
      repeat (first | refine ⟨_, rfl, ?_⟩ | refine ⟨_, _, rfl, rfl, ?_⟩ | refine ⟨_, _, _, .inr rfl, rfl, rfl, ?_⟩ | refine ⟨_, _, _, .inl rfl, rfl, rfl, ?_⟩ | refine ⟨_, .inr rfl, ?_⟩ | refine ⟨_, .inl rfl, ?_⟩ | refine ⟨(by intro s z; cases z), ?_⟩ | refine ⟨Nat.le_of_ble_eq_true rfl, ?_⟩ | refine ⟨rfl, ?_⟩ | refine iteT ?_ | refine iteF ?_ | refine ⟨_, _, rfl, ?_⟩ | refine ⟨_, _, _, rfl, ?_⟩)
      refine byEnv ?_ (hK _ ⟨.dat (eN j), .dat (eN (inn b j)), .dat (.list (lstF b.length (manyF (kd b j).2))), c6, rfl⟩)
      rw [sumK_succ]
      simp [eN, Int.add_assoc]
    · obtain ⟨c3, c4, c5, c6, rfl⟩ := hI
      rw [Nat.zero_add, List.length_range]
      repeat (first | refine ⟨_, rfl, ?_⟩ | refine ⟨_, _, rfl, rfl, ?_⟩ | refine ⟨_, _, _, .inr rfl, rfl, rfl, ?_⟩ | refine ⟨_, _, _, .inl rfl, rfl, rfl, ?_⟩ | refine ⟨_, .inr rfl, ?_⟩ | refine ⟨_, .inl rfl, ?_⟩ | refine ⟨(by intro s z; cases z), ?_⟩ | refine ⟨Nat.le_of_ble_eq_true rfl, ?_⟩ | refine ⟨rfl, ?_⟩ | refine iteT ?_ | refine iteF ?_ | refine ⟨_, _, rfl, ?_⟩ | refine ⟨_, _, _, rfl, ?_⟩)
      refine ⟨by omega, by simp; omega, ?_⟩
      rw [show (((List.range b.length).map fun c => PyData.tuple [eN (inn b c), .list (lstF b.length (manyF (kd b c).2))]).length : Nat) = b.length by simp, rgN0]
      refine lc_map (enc := eN) (f := fun d => eN (sumK b.length fun c => f c * manyF (kd b c).2 d)) (List.range b.length) [] (by simp; omega) (fun d hd K1 hK1 => ?_) ?_
      · have hdk := List.mem_range.mp hd
        repeat (first | refine ⟨_, rfl, ?_⟩ | refine ⟨_, _, rfl, rfl, ?_⟩ | refine ⟨_, _, _, .inr rfl, rfl, rfl, ?_⟩ | refine ⟨_, _, _, .inl rfl, rfl, rfl, ?_⟩ | refine ⟨_, .inr rfl, ?_⟩ | refine ⟨_, .inl rfl, ?_⟩ | refine ⟨(by intro s z; cases z), ?_⟩ | refine ⟨Nat.le_of_ble_eq_true rfl, ?_⟩ | refine ⟨rfl, ?_⟩ | refine iteT ?_ | refine iteF ?_ | refine ⟨_, _, rfl, ?_⟩ | refine ⟨_, _, _, rfl, ?_⟩)
        rw [rowOf]
        refine lc_map (enc := fun c : Nat => PyData.tuple [eN c, .tuple [eN (inn b c), .list (lstF b.length (manyF (kd b c).2))]]) (f := fun c => eN (f c * manyF (kd b c).2 d)) (List.range b.length) [] (by simp; omega) (fun c hc K2 hK2 => ?_) ?_
        · have hck := List.mem_range.mp hc
          have h6 := hmany c d hck
          repeat (first | refine ⟨_, rfl, ?_⟩ | refine ⟨_, _, rfl, rfl, ?_⟩ | refine ⟨_, _, _, .inr rfl, rfl, rfl, ?_⟩ | refine ⟨_, _, _, .inl rfl, rfl, rfl, ?_⟩ | refine ⟨_, .inr rfl, ?_⟩ | refine ⟨_, .inl rfl, ?_⟩ | refine ⟨(by intro s z; cases z), ?_⟩ | refine ⟨Nat.le_of_ble_eq_true rfl, ?_⟩ | refine ⟨rfl, ?_⟩ | refine iteT ?_ | refine iteF ?_ | refine ⟨_, _, rfl, ?_⟩ | refine ⟨_, _, _, rfl, ?_⟩)
          refine ⟨_, _, _, .inl rfl, rfl, atI_nat (lstF_get hck), ?_⟩
          repeat (first | refine ⟨_, rfl, ?_⟩ | refine ⟨_, _, rfl, rfl, ?_⟩ | refine ⟨_, _, _, .inr rfl, rfl, rfl, ?_⟩ | refine ⟨_, _, _, .inl rfl, rfl, rfl, ?_⟩ | refine ⟨_, .inr rfl, ?_⟩ | refine ⟨_, .inl rfl, ?_⟩ | refine ⟨(by intro s z; cases z), ?_⟩ | refine ⟨Nat.le_of_ble_eq_true rfl, ?_⟩ | refine ⟨rfl, ?_⟩ | refine iteT ?_ | refine iteF ?_ | refine ⟨_, _, rfl, ?_⟩ | refine ⟨_, _, _, rfl, ?_⟩)
          refine ⟨_, _, _, .inl rfl, rfl, atI_nat (lstF_get hdk), ?_⟩
          repeat (first | refine ⟨_, rfl, ?_⟩ | refine ⟨_, _, rfl, rfl, ?_⟩ | refine ⟨_, _, _, .inr rfl, rfl, rfl, ?_⟩ | refine ⟨_, _, _, .inl rfl, rfl, rfl, ?_⟩ | refine ⟨_, .inr rfl, ?_⟩ | refine ⟨_, .inl rfl, ?_⟩ | refine ⟨(by intro s z; cases z), ?_⟩ | refine ⟨Nat.le_of_ble_eq_true rfl, ?_⟩ | refine ⟨rfl, ?_⟩ | refine iteT ?_ | refine iteF ?_ | refine ⟨_, _, rfl, ?_⟩ | refine ⟨_, _, _, rfl, ?_⟩)
          refine ⟨.inr ⟨by omega, by omega⟩, ?_⟩
          exact byEq (Q := K2) hK2 (by simp [eN])
        · refine ⟨(List.range b.length).map fun c => ((f c * manyF (kd b c).2 d : Nat) : Int), by simp [eN], ?_⟩
          refine byEq (Q := K1) hK1 ?_
          have := sum_cast ((List.range b.length).map fun c => f c * manyF (kd b c).2 d)
          rw [List.map_map] at this
          unfold eN sumK
          rw [← this]
          rfl
      · repeat (first | refine ⟨_, rfl, ?_⟩ | refine ⟨_, _, rfl, rfl, ?_⟩ | refine ⟨_, _, _, .inr rfl, rfl, rfl, ?_⟩ | refine ⟨_, _, _, .inl rfl, rfl, rfl, ?_⟩ | refine ⟨_, .inr rfl, ?_⟩ | refine ⟨_, .inl rfl, ?_⟩ | refine ⟨(by intro s z; cases z), ?_⟩ | refine ⟨Nat.le_of_ble_eq_true rfl, ?_⟩ | refine ⟨rfl, ?_⟩ | refine iteT ?_ | refine iteF ?_ | refine ⟨_, _, rfl, ?_⟩ | refine ⟨_, _, _, rfl, ?_⟩)
        exact h
end
end L3
namespace L3
open PySem L2
open PySem.Spec
section
variable {P : Program} {w : World} {K : PySem.W.Frag} {mg : Str → Option Value} {base : Heap} {T : List (Addr × Str)}
def phi__law_most : Phi := fun ds Q => ∃ g n, ds = [eGar g, eN n] ∧ GarOk g ∧ n ≤ 900 ∧ ∀ d, MostRes g n d → Q d
abbrev s__law_most : Stmt := topS 70
theorem sc__law_most : FnScope ["_law_garden_here", "_law_n", "_law_turn", "_law_places", "_law_many_here", "_law_table_here"] ["_law_garden_here", "_law_n"] (defScope s__law_most) := ⟨rfl, rfl, rfl, by decide +kernel, rfl, by decide +kernel, by decide +kernel⟩
theorem ok__law_most {f : Addr} {fd : FuncData} (F : Fun K "_law_most" "_law_most" s__law_most f fd) (N : Nms mg) (h__law_many : Has P w K mg base "_law_many" 1 ["_law_web_here", "_law_kinds"] (sp3 ⟨T, none⟩ phi__law_many)) (h__law_table : Has P w K mg base "_law_table" 2 ["_law_book_here"] (sp3 ⟨T, none⟩ phi__law_table)) (h__law_counted : Has P w K mg base "_law_counted" 1 ["_law_table_here", "_law_places", "_law_many_here"] (sp3 ⟨T, none⟩ phi__law_counted)) : FnOk P w K mg base CX0 3 f fd ["_law_garden_here", "_law_n"] (sp3 ⟨T, none⟩ phi__law_most) := by
  refine fn3 F sc__law_most (fun ds QD h => ?_) (fun cdv A outer s H E hr => ⟨_, _, (by exact qss_cons (qs_par3 (i := 3) (j := 4) (l := 5) rfl sc__law_most.nd rfl rfl rfl (by decide) (by decide) (by decide) rfl rfl rfl (qa_cons (q_ixK (q_ixK (q_var 0) q_int) q_int) (qa_cons (q_call h__law_many (hr.mono (by decide)) (qa_cons (q_ixK (q_var 0) q_int) (qa_cons (q_cb call_lenK l_len rfl N.len PySem.boot_len (qa_cons (q_ixK (q_var 0) q_int) qa_nil)) qa_nil))) (qa_cons (q_call h__law_table (hr.mono (by decide)) (qa_cons (q_ixK (q_var 0) q_int) qa_nil)) qa_nil))) (by rfl)) (qss_cons (qs_for PassesOwn.never rfl (qi_rng1 rfl N.range (q_var 1)) (qg_name (i := 2) sc__law_most.nd) (qss_cons (qs_asg (q_call h__law_counted (hr.mono (by decide)) (qa_cons (q_var 5) (qa_cons (q_var 3) (qa_cons (q_var 4) qa_nil)))) (qg_tupK (n := 2) rfl (qgs_cons (qg_name (i := 3) sc__law_most.nd) (qgs_cons (qg_name (i := 4) sc__law_most.nd) qgs_nil)))) (qss_cons (qs_if (qt_cmp op_gt l_gt (by decide) (by decide) (q_var 3) q_int) (qss_one (qs_ret q_int)) (qss_nil)) (qss_one (qs_if (qt_cmp op_gt l_gt (by decide) (by decide) (q_cb (cr_sumK rfl) l_sum rfl N.sum bt_sum (qa_cons (q_var 4) qa_nil)) q_int) (qss_one (qs_ret q_int)) (qss_nil)))))) (qss_one (qs_ret q_non)))), fun ds QD h => ?_⟩)
  · obtain ⟨g, n, rfl, _⟩ := h; rfl
  · obtain ⟨g, n, rfl, ok, hn, h⟩ := h
    have hkl : (List.map eWeb g.2).length = g.2.length := List.length_map ..
    have hk := ok.book.few
    have := ok.start.few
    repeat (first | refine ⟨_, rfl, ?_⟩ | refine ⟨_, _, rfl, rfl, ?_⟩ | refine ⟨_, _, _, .inr rfl, rfl, rfl, ?_⟩ | refine ⟨_, _, _, .inl rfl, rfl, rfl, ?_⟩ | refine ⟨_, .inr rfl, ?_⟩ | refine ⟨_, .inl rfl, ?_⟩ | refine ⟨(by intro s z; cases z), ?_⟩ | refine ⟨Nat.le_of_ble_eq_true rfl, ?_⟩ | refine ⟨rfl, ?_⟩ | refine iteT ?_ | refine iteF ?_ | refine ⟨_, _, rfl, ?_⟩ | refine ⟨_, _, _, rfl, ?_⟩)
    refine ⟨by omega, by rw [hkl]; exact hk, ?_⟩
    repeat (first | refine ⟨_, rfl, ?_⟩ | refine ⟨_, _, rfl, rfl, ?_⟩ | refine ⟨_, _, _, .inr rfl, rfl, rfl, ?_⟩ | refine ⟨_, _, _, .inl rfl, rfl, rfl, ?_⟩ | refine ⟨_, .inr rfl, ?_⟩ | refine ⟨_, .inl rfl, ?_⟩ | refine ⟨(by intro s z; cases z), ?_⟩ | refine ⟨Nat.le_of_ble_eq_true rfl, ?_⟩ | refine ⟨rfl, ?_⟩ | refine iteT ?_ | refine iteF ?_ | refine ⟨_, _, rfl, ?_⟩ | refine ⟨_, _, _, rfl, ?_⟩)
    refine ⟨ok.book, ?_⟩
    repeat (first | refine ⟨_, rfl, ?_⟩ | refine ⟨_, _, rfl, rfl, ?_⟩ | refine ⟨_, _, _, .inr rfl, rfl, rfl, ?_⟩ | refine ⟨_, _, _, .inl rfl, rfl, rfl, ?_⟩ | refine ⟨_, .inr rfl, ?_⟩ | refine ⟨_, .inl rfl, ?_⟩ | refine ⟨(by intro s z; cases z), ?_⟩ | refine ⟨Nat.le_of_ble_eq_true rfl, ?_⟩ | refine ⟨rfl, ?_⟩ | refine iteT ?_ | refine iteF ?_ | refine ⟨_, _, rfl, ?_⟩ | refine ⟨_, _, _, rfl, ?_⟩)
    rw [hkl]
    refine ⟨by omega, by omega, ?_⟩
    rw [rgN0]
    refine for_ind (enc := eN) (fun i ρ => (∀ j, j < i → (mst g (j + 1)).1 ≤ 400 ∧ sumK g.2.length (mst g (j + 1)).2 ≤ 600) ∧ ∃ c2, ρ = [.dat (eGar g), .dat (eN n), c2, .dat (eN (mst g i).1), .dat (.list (lstF g.2.length (mst g i).2)), .dat (tblD g.2)]) (List.range n) 0 _ ⟨fun j hj => absurd hj (Nat.not_lt_zero _), .un, rfl⟩ (fun i j ρ hi hI K' hK => ?_) (fun ρ hI => ?_)
    · obtain ⟨hf, c2, rfl⟩ := hI
      rw [Nat.zero_add] at hK hf ⊢
      obtain ⟨hlt, rfl⟩ : i < n ∧ j = i := by
        have h1 := (List.getElem?_eq_some_iff.mp hi).1
        rw [List.length_range] at h1
        rw [List.getElem?_range h1] at hi
        exact ⟨h1, (Option.some.inj hi).symm⟩
      repeat (first | refine ⟨_, rfl, ?_⟩ | refine ⟨_, _, rfl, rfl, ?_⟩ | refine ⟨_, _, _, .inr rfl, rfl, rfl, ?_⟩ | refine ⟨_, _, _, .inl rfl, rfl, rfl, ?_⟩ | refine ⟨_, .inr rfl, ?_⟩ | refine ⟨_, .inl rfl, ?_⟩ | refine ⟨(by intro s z; cases z), ?_⟩ | refine ⟨Nat.le_of_ble_eq_true rfl, ?_⟩ | refine ⟨rfl, ?_⟩ | refine iteT ?_ | refine iteF ?_ | refine ⟨_, _, rfl, ?_⟩ | refine ⟨_, _, _, rfl, ?_⟩)
      refine ⟨ok.book, ?_⟩
      repeat (first | refine ⟨_, rfl, ?_⟩ | refine ⟨_, _, rfl, rfl, ?_⟩ | refine ⟨_, _, _, .inr rfl, rfl, rfl, ?_⟩ | refine ⟨_, _, _, .inl rfl, rfl, rfl, ?_⟩ | refine ⟨_, .inr rfl, ?_⟩ | refine ⟨_, .inl rfl, ?_⟩ | refine ⟨(by intro s z; cases z), ?_⟩ | refine ⟨Nat.le_of_ble_eq_true rfl, ?_⟩ | refine ⟨rfl, ?_⟩ | refine iteT ?_ | refine iteF ?_ | refine ⟨_, _, rfl, ?_⟩ | refine ⟨_, _, _, rfl, ?_⟩)
      by_cases h4 : 400 < (mst g (j + 1)).1
      · refine iteB (decide_eq_true (by
          have : ((mst g j).1 + sumK g.2.length fun c => (mst g j).2 c * inn g.2 c) = (mst g (j + 1)).1 := rfl
          rw [this]
          omega)) ?_
        repeat (first | refine ⟨_, rfl, ?_⟩ | refine ⟨_, _, rfl, rfl, ?_⟩ | refine ⟨_, _, _, .inr rfl, rfl, rfl, ?_⟩ | refine ⟨_, _, _, .inl rfl, rfl, rfl, ?_⟩ | refine ⟨_, .inr rfl, ?_⟩ | refine ⟨_, .inl rfl, ?_⟩ | refine ⟨(by intro s z; cases z), ?_⟩ | refine ⟨Nat.le_of_ble_eq_true rfl, ?_⟩ | refine ⟨rfl, ?_⟩ | refine iteT ?_ | refine iteF ?_ | refine ⟨_, _, rfl, ?_⟩ | refine ⟨_, _, _, rfl, ?_⟩)
        exact h _ (.inr ⟨_, rfl⟩)
      · refine iteN (decide_eq_false (by
          have : ((mst g j).1 + sumK g.2.length fun c => (mst g j).2 c * inn g.2 c) = (mst g (j + 1)).1 := rfl
          rw [this]
          omega)) ?_
        repeat (first | refine ⟨_, rfl, ?_⟩ | refine ⟨_, _, rfl, rfl, ?_⟩ | refine ⟨_, _, _, .inr rfl, rfl, rfl, ?_⟩ | refine ⟨_, _, _, .inl rfl, rfl, rfl, ?_⟩ | refine ⟨_, .inr rfl, ?_⟩ | refine ⟨_, .inl rfl, ?_⟩ | refine ⟨(by intro s z; cases z), ?_⟩ | refine ⟨Nat.le_of_ble_eq_true rfl, ?_⟩ | refine ⟨rfl, ?_⟩ | refine iteT ?_ | refine iteF ?_ | refine ⟨_, _, rfl, ?_⟩ | refine ⟨_, _, _, rfl, ?_⟩)
        have hs : (((List.range g.2.length).map fun d => ((mst g (j + 1)).2 d : Int)).sum) = ((sumK g.2.length (mst g (j + 1)).2 : Nat) : Int) := by
          have := sum_cast ((List.range g.2.length).map fun d => (mst g (j + 1)).2 d)
          rw [List.map_map] at this
          exact this
        refine ⟨(List.range g.2.length).map fun d => ((mst g (j + 1)).2 d : Int), by simp [lstF, eN, mst], ?_⟩
        rw [hs]
        repeat (first | refine ⟨_, rfl, ?_⟩ | refine ⟨_, _, rfl, rfl, ?_⟩ | refine ⟨_, _, _, .inr rfl, rfl, rfl, ?_⟩ | refine ⟨_, _, _, .inl rfl, rfl, rfl, ?_⟩ | refine ⟨_, .inr rfl, ?_⟩ | refine ⟨_, .inl rfl, ?_⟩ | refine ⟨(by intro s z; cases z), ?_⟩ | refine ⟨Nat.le_of_ble_eq_true rfl, ?_⟩ | refine ⟨rfl, ?_⟩ | refine iteT ?_ | refine iteF ?_ | refine ⟨_, _, rfl, ?_⟩ | refine ⟨_, _, _, rfl, ?_⟩)
        by_cases h6 : 600 < sumK g.2.length (mst g (j + 1)).2
        · refine iteB (decide_eq_true (by omega)) ?_
          repeat (first | refine ⟨_, rfl, ?_⟩ | refine ⟨_, _, rfl, rfl, ?_⟩ | refine ⟨_, _, _, .inr rfl, rfl, rfl, ?_⟩ | refine ⟨_, _, _, .inl rfl, rfl, rfl, ?_⟩ | refine ⟨_, .inr rfl, ?_⟩ | refine ⟨_, .inl rfl, ?_⟩ | refine ⟨(by intro s z; cases z), ?_⟩ | refine ⟨Nat.le_of_ble_eq_true rfl, ?_⟩ | refine ⟨rfl, ?_⟩ | refine iteT ?_ | refine iteF ?_ | refine ⟨_, _, rfl, ?_⟩ | refine ⟨_, _, _, rfl, ?_⟩)
          exact h _ (.inr ⟨_, rfl⟩)
        · refine iteN (decide_eq_false (by omega)) ?_
          refine hK _ ⟨fun i hi => ?_, .dat (eN j), rfl⟩
          by_cases e : i = j
          · subst e
            omega
          · exact hf i (by omega)
    · obtain ⟨hf, c2, rfl⟩ := hI
      rw [Nat.zero_add, List.length_range] at hf
      repeat (first | refine ⟨_, rfl, ?_⟩ | refine ⟨_, _, rfl, rfl, ?_⟩ | refine ⟨_, _, _, .inr rfl, rfl, rfl, ?_⟩ | refine ⟨_, _, _, .inl rfl, rfl, rfl, ?_⟩ | refine ⟨_, .inr rfl, ?_⟩ | refine ⟨_, .inl rfl, ?_⟩ | refine ⟨(by intro s z; cases z), ?_⟩ | refine ⟨Nat.le_of_ble_eq_true rfl, ?_⟩ | refine ⟨rfl, ?_⟩ | refine iteT ?_ | refine iteF ?_ | refine ⟨_, _, rfl, ?_⟩ | refine ⟨_, _, _, rfl, ?_⟩)
      exact h _ (.inl ⟨rfl, hf⟩)
def phi__law_at : Phi := fun ds Q => ∃ (v : Web) (s : Bool) (p k : Nat), ds = [eWeb v, .int (if s then 1 else 0), eN p, eN k] ∧ v.2.length ≤ 6000 ∧ k ≤ 3 ∧ Q (.list (lstF k (cntE v.2 s p)))
abbrev s__law_at : Stmt := topS 72
theorem sc__law_at : FnScope ["_law_web_here", "_law_side", "_law_place", "_law_kinds", "_law_d", "_law_tie_here"] ["_law_web_here", "_law_side", "_law_place", "_law_kinds"] (defScope s__law_at) := ⟨rfl, rfl, rfl, by decide +kernel, rfl, by decide +kernel, by decide +kernel⟩
theorem ok__law_at {f : Addr} {fd : FuncData} (F : Fun K "_law_at" "_law_at" s__law_at f fd) (N : Nms mg)  : FnOk P w K mg base CX0 1 f fd ["_law_web_here", "_law_side", "_law_place", "_law_kinds"] (sp3 ⟨T, none⟩ phi__law_at) := by
  refine fn3 F sc__law_at (fun ds QD h => ?_) (fun cdv A outer s H E hr => ⟨_, _, (by exact qss_one (qs_ret (PDL.pde (ql_lc rfl sc__law_at.nd (own := [("_law_d", 4)]) (qi_rng1 rfl N.range (q_var 3)) (blkOk_by (by rfl)) (fun _ _ _ _ _ => (qg_name (i := 4) sc__law_at.nd)) (fun _ _ _ _ _ => qts_nil) (fun _ _ _ _ _ => (q_cb call_lenK l_len rfl N.len PySem.boot_len (qa_cons (PDL.pde (ql_lc rfl sc__law_at.nd (own := [("_law_tie_here", 5)]) (qi_tupK (q_ixK (q_var 0) q_int)) (blkOk_by (by rfl)) (fun _ _ _ _ _ => (qg_name (i := 5) sc__law_at.nd)) (fun _ _ _ _ _ => (qts_one (PDW.pdt (qw_and (qt_cmp op_eq l_eqI (by decide) (by decide) (q_ixK (q_var 5) (q_var 1)) (q_var 2)) (qw_and1 (qt_cmp op_eq l_eqI (by decide) (by decide) (q_ixK (q_var 5) q_int) (q_var 4))))))) (fun _ _ _ _ _ => (q_var 5)) (by decide) s)) qa_nil))) (by decide) s)))), fun ds QD h => ?_⟩)
  · obtain ⟨v, s, p, k, rfl, _⟩ := h; rfl
  · obtain ⟨v, s, p, k, rfl, few, hk, h⟩ := h
    repeat (first | refine ⟨_, rfl, ?_⟩ | refine ⟨_, _, rfl, rfl, ?_⟩ | refine ⟨_, _, _, .inr rfl, rfl, rfl, ?_⟩ | refine ⟨_, _, _, .inl rfl, rfl, rfl, ?_⟩ | refine ⟨_, .inr rfl, ?_⟩ | refine ⟨_, .inl rfl, ?_⟩ | refine ⟨(by intro s z; cases z), ?_⟩ | refine ⟨Nat.le_of_ble_eq_true rfl, ?_⟩ | refine ⟨rfl, ?_⟩ | refine iteT ?_ | refine iteF ?_ | refine ⟨_, _, rfl, ?_⟩ | refine ⟨_, _, _, rfl, ?_⟩)
    refine ⟨by omega, by omega, ?_⟩
    rw [rgN0]
    refine lc_map (enc := eN) (f := fun d => eN (cntE v.2 s p d)) (List.range k) [] (by simp; omega) (fun c hc K1 hK1 => ?_) ?_
    · repeat (first | refine ⟨_, rfl, ?_⟩ | refine ⟨_, _, rfl, rfl, ?_⟩ | refine ⟨_, _, _, .inr rfl, rfl, rfl, ?_⟩ | refine ⟨_, _, _, .inl rfl, rfl, rfl, ?_⟩ | refine ⟨_, .inr rfl, ?_⟩ | refine ⟨_, .inl rfl, ?_⟩ | refine ⟨(by intro s z; cases z), ?_⟩ | refine ⟨Nat.le_of_ble_eq_true rfl, ?_⟩ | refine ⟨rfl, ?_⟩ | refine iteT ?_ | refine iteF ?_ | refine ⟨_, _, rfl, ?_⟩ | refine ⟨_, _, _, rfl, ?_⟩)
      refine lc_filter (enc := eTie) (f := eTie) (p := fun t => decide (sideOf s t = p) && decide (t.2.2 = c)) v.2 [] (by simp; omega) (fun t ht K2 K3 h1 h2 => ?_) ?_
      · repeat (first | refine ⟨_, rfl, ?_⟩ | refine ⟨_, _, rfl, rfl, ?_⟩ | refine ⟨_, _, _, .inr rfl, rfl, rfl, ?_⟩ | refine ⟨_, _, _, .inl rfl, rfl, rfl, ?_⟩ | refine ⟨_, .inr rfl, ?_⟩ | refine ⟨_, .inl rfl, ?_⟩ | refine ⟨(by intro s z; cases z), ?_⟩ | refine ⟨Nat.le_of_ble_eq_true rfl, ?_⟩ | refine ⟨rfl, ?_⟩ | refine iteT ?_ | refine iteF ?_ | refine ⟨_, _, rfl, ?_⟩ | refine ⟨_, _, _, rfl, ?_⟩)
        refine ⟨_, _, eN (sideOf s t), .inr rfl, rfl, by cases s <;> rfl, ?_⟩
        repeat (first | refine ⟨_, rfl, ?_⟩ | refine ⟨_, _, rfl, rfl, ?_⟩ | refine ⟨_, _, _, .inr rfl, rfl, rfl, ?_⟩ | refine ⟨_, _, _, .inl rfl, rfl, rfl, ?_⟩ | refine ⟨_, .inr rfl, ?_⟩ | refine ⟨_, .inl rfl, ?_⟩ | refine ⟨(by intro s z; cases z), ?_⟩ | refine ⟨Nat.le_of_ble_eq_true rfl, ?_⟩ | refine ⟨rfl, ?_⟩ | refine iteT ?_ | refine iteF ?_ | refine ⟨_, _, rfl, ?_⟩ | refine ⟨_, _, _, rfl, ?_⟩)
        by_cases e : sideOf s t = p
        · refine iteB (decide_eq_true (by omega)) ?_
          repeat (first | refine ⟨_, rfl, ?_⟩ | refine ⟨_, _, rfl, rfl, ?_⟩ | refine ⟨_, _, _, .inr rfl, rfl, rfl, ?_⟩ | refine ⟨_, _, _, .inl rfl, rfl, rfl, ?_⟩ | refine ⟨_, .inr rfl, ?_⟩ | refine ⟨_, .inl rfl, ?_⟩ | refine ⟨(by intro s z; cases z), ?_⟩ | refine ⟨Nat.le_of_ble_eq_true rfl, ?_⟩ | refine ⟨rfl, ?_⟩ | refine iteT ?_ | refine iteF ?_ | refine ⟨_, _, rfl, ?_⟩ | refine ⟨_, _, _, rfl, ?_⟩)
          refine filt_go (b' := decide (t.2.2 = c)) (dec_nat _ _) (fun z => ?_) (fun z => h2 (by simp [e]; simpa using z))
          repeat (first | refine ⟨_, rfl, ?_⟩ | refine ⟨_, _, rfl, rfl, ?_⟩ | refine ⟨_, _, _, .inr rfl, rfl, rfl, ?_⟩ | refine ⟨_, _, _, .inl rfl, rfl, rfl, ?_⟩ | refine ⟨_, .inr rfl, ?_⟩ | refine ⟨_, .inl rfl, ?_⟩ | refine ⟨(by intro s z; cases z), ?_⟩ | refine ⟨Nat.le_of_ble_eq_true rfl, ?_⟩ | refine ⟨rfl, ?_⟩ | refine iteT ?_ | refine iteF ?_ | refine ⟨_, _, rfl, ?_⟩ | refine ⟨_, _, _, rfl, ?_⟩)
          exact h1 (by simp [e]; simpa using z)
        · refine iteN (decide_eq_false (by omega)) ?_
          exact h2 (by simp [e])
      · repeat (first | refine ⟨_, rfl, ?_⟩ | refine ⟨_, _, rfl, rfl, ?_⟩ | refine ⟨_, _, _, .inr rfl, rfl, rfl, ?_⟩ | refine ⟨_, _, _, .inl rfl, rfl, rfl, ?_⟩ | refine ⟨_, .inr rfl, ?_⟩ | refine ⟨_, .inl rfl, ?_⟩ | refine ⟨(by intro s z; cases z), ?_⟩ | refine ⟨Nat.le_of_ble_eq_true rfl, ?_⟩ | refine ⟨rfl, ?_⟩ | refine iteT ?_ | refine iteF ?_ | refine ⟨_, _, rfl, ?_⟩ | refine ⟨_, _, _, rfl, ?_⟩)
        refine byEq (Q := K1) hK1 ?_
        simp [cntE, List.countP_eq_length_filter, eN]
    · exact h
def phi__law_led : Phi := fun ds Q => ∃ (v : Web) (ren : List Nat), ds = [eWeb v, eRow ren] ∧ v.2.length ≤ 6000 ∧ (∀ t ∈ v.2, t.1 < ren.length ∧ t.2.1 < ren.length) ∧ Q (eWeb (v.1, sortE eTie (v.2.map fun t => (ren.getD t.1 0, ren.getD t.2.1 0, t.2.2))))
abbrev s__law_led : Stmt := topS 64
theorem sc__law_led : FnScope ["_law_web_here", "_law_renaming_here", "_law_a", "_law_b", "_law_c"] ["_law_web_here", "_law_renaming_here"] (defScope s__law_led) := ⟨rfl, rfl, rfl, by decide +kernel, rfl, by decide +kernel, by decide +kernel⟩
theorem ok__law_led {f : Addr} {fd : FuncData} (F : Fun K "_law_led" "_law_led" s__law_led f fd) (N : Nms mg)  : FnOk P w K mg base CX0 1 f fd ["_law_web_here", "_law_renaming_here"] (sp3 ⟨T, none⟩ phi__law_led) := by
  refine fn3 F sc__law_led (fun ds QD h => ?_) (fun cdv A outer s H E hr => ⟨_, _, (by have hu := hr.units; exact qss_one (qs_ret (q_tup (qa_cons (q_ixK (q_var 0) q_int) (qa_cons (q_cty call_tuple_of l_tuple rfl N.tuple bt_tuple (qa_cons (PDL.pde (ql_sorted hu rfl N.sorted (PDL.pde (ql_lc rfl sc__law_led.nd (own := [("_law_a", 2), ("_law_b", 3), ("_law_c", 4)]) (qi_tupK (q_ixK (q_var 0) q_int)) (blkOk_by (by rfl)) (fun _ _ _ _ _ => (qg_tupK (n := 3) rfl (qgs_cons (qg_name (i := 2) sc__law_led.nd) (qgs_cons (qg_name (i := 3) sc__law_led.nd) (qgs_cons (qg_name (i := 4) sc__law_led.nd) qgs_nil))))) (fun _ _ _ _ _ => qts_nil) (fun _ _ _ _ _ => (q_tup (qa_cons (q_ixK (q_var 1) (q_var 2)) (qa_cons (q_ixK (q_var 1) (q_var 3)) (qa_cons (q_var 4) qa_nil))))) (by decide) s)))) qa_nil)) qa_nil))))), fun ds QD h => ?_⟩)
  · obtain ⟨v, ren, rfl, _⟩ := h; rfl
  · obtain ⟨v, ren, rfl, few, hin, h⟩ := h
    have get : ∀ {i : Nat}, i < ren.length → ren[i]? = some (ren.getD i 0) := fun {i} hi => by
      rw [List.getD_eq_getElem?_getD, List.getElem?_eq_getElem hi]
      rfl
    repeat (first | refine ⟨_, rfl, ?_⟩ | refine ⟨_, _, rfl, rfl, ?_⟩ | refine ⟨_, _, _, .inr rfl, rfl, rfl, ?_⟩ | refine ⟨_, _, _, .inl rfl, rfl, rfl, ?_⟩ | refine ⟨_, .inr rfl, ?_⟩ | refine ⟨_, .inl rfl, ?_⟩ | refine ⟨(by intro s z; cases z), ?_⟩ | refine ⟨Nat.le_of_ble_eq_true rfl, ?_⟩ | refine ⟨rfl, ?_⟩ | refine iteT ?_ | refine iteF ?_ | refine ⟨_, _, rfl, ?_⟩ | refine ⟨_, _, _, rfl, ?_⟩)
    refine lc_map (enc := eTie) (f := fun t => eTie (ren.getD t.1 0, ren.getD t.2.1 0, t.2.2)) v.2 [] (by simp; omega) (fun t ht K1 hK1 => ?_) ?_
    · obtain ⟨h1, h2⟩ := hin t ht
      repeat (first | refine ⟨_, rfl, ?_⟩ | refine ⟨_, _, rfl, rfl, ?_⟩ | refine ⟨_, _, _, .inr rfl, rfl, rfl, ?_⟩ | refine ⟨_, _, _, .inl rfl, rfl, rfl, ?_⟩ | refine ⟨_, .inr rfl, ?_⟩ | refine ⟨_, .inl rfl, ?_⟩ | refine ⟨(by intro s z; cases z), ?_⟩ | refine ⟨Nat.le_of_ble_eq_true rfl, ?_⟩ | refine ⟨rfl, ?_⟩ | refine iteT ?_ | refine iteF ?_ | refine ⟨_, _, rfl, ?_⟩ | refine ⟨_, _, _, rfl, ?_⟩)
      refine ⟨_, _, _, .inr rfl, rfl, atI_map (get h1), ?_⟩
      repeat (first | refine ⟨_, rfl, ?_⟩ | refine ⟨_, _, rfl, rfl, ?_⟩ | refine ⟨_, _, _, .inr rfl, rfl, rfl, ?_⟩ | refine ⟨_, _, _, .inl rfl, rfl, rfl, ?_⟩ | refine ⟨_, .inr rfl, ?_⟩ | refine ⟨_, .inl rfl, ?_⟩ | refine ⟨(by intro s z; cases z), ?_⟩ | refine ⟨Nat.le_of_ble_eq_true rfl, ?_⟩ | refine ⟨rfl, ?_⟩ | refine iteT ?_ | refine iteF ?_ | refine ⟨_, _, rfl, ?_⟩ | refine ⟨_, _, _, rfl, ?_⟩)
      refine ⟨_, _, _, .inr rfl, rfl, atI_map (get h2), ?_⟩
      repeat (first | refine ⟨_, rfl, ?_⟩ | refine ⟨_, _, rfl, rfl, ?_⟩ | refine ⟨_, _, _, .inr rfl, rfl, rfl, ?_⟩ | refine ⟨_, _, _, .inl rfl, rfl, rfl, ?_⟩ | refine ⟨_, .inr rfl, ?_⟩ | refine ⟨_, .inl rfl, ?_⟩ | refine ⟨(by intro s z; cases z), ?_⟩ | refine ⟨Nat.le_of_ble_eq_true rfl, ?_⟩ | refine ⟨rfl, ?_⟩ | refine iteT ?_ | refine iteF ?_ | refine ⟨_, _, rfl, ?_⟩ | refine ⟨_, _, _, rfl, ?_⟩)
      exact hK1
    · repeat (first | refine ⟨_, rfl, ?_⟩ | refine ⟨_, _, rfl, rfl, ?_⟩ | refine ⟨_, _, _, .inr rfl, rfl, rfl, ?_⟩ | refine ⟨_, _, _, .inl rfl, rfl, rfl, ?_⟩ | refine ⟨_, .inr rfl, ?_⟩ | refine ⟨_, .inl rfl, ?_⟩ | refine ⟨(by intro s z; cases z), ?_⟩ | refine ⟨Nat.le_of_ble_eq_true rfl, ?_⟩ | refine ⟨rfl, ?_⟩ | refine iteT ?_ | refine iteF ?_ | refine ⟨_, _, rfl, ?_⟩ | refine ⟨_, _, _, rfl, ?_⟩)
      have e : (v.2.map fun t => eTie (ren.getD t.1 0, ren.getD t.2.1 0, t.2.2)) = (v.2.map fun t => (ren.getD t.1 0, ren.getD t.2.1 0, t.2.2)).map eTie := by
        rw [List.map_map]
        rfl
      rw [List.nil_append, e]
      refine ⟨sortOk enc_tie (fun b => ⟨_, _, rfl⟩) (by simp; omega), ?_⟩
      rw [srtD_map]
      repeat (first | refine ⟨_, rfl, ?_⟩ | refine ⟨_, _, rfl, rfl, ?_⟩ | refine ⟨_, _, _, .inr rfl, rfl, rfl, ?_⟩ | refine ⟨_, _, _, .inl rfl, rfl, rfl, ?_⟩ | refine ⟨_, .inr rfl, ?_⟩ | refine ⟨_, .inl rfl, ?_⟩ | refine ⟨(by intro s z; cases z), ?_⟩ | refine ⟨Nat.le_of_ble_eq_true rfl, ?_⟩ | refine ⟨rfl, ?_⟩ | refine iteT ?_ | refine iteF ?_ | refine ⟨_, _, rfl, ?_⟩ | refine ⟨_, _, _, rfl, ?_⟩)
      exact h
theorem kept_len {g : Gar} (i : Nat) : (allA g i).length = (stR g i).1 := allA_len g i
def phi__law_kept : Phi := fun ds Q => ∃ g n, ds = [eGar g, eN n] ∧ GarOk g ∧ StFit g n ∧ n ≤ 900 ∧ Q (.tuple [.list ((stR g n).2.map eT4), .list ((allA g n).map eAdr)])
abbrev s__law_kept : Stmt := topS 71
theorem sc__law_kept : FnScope ["_law_garden_here", "_law_n", "_law_turn", "_law_start_here", "_law_book_here", "_law_ties", "_law_addresses", "_law_found", "_law_tie_here", "_law_p", "_law_base", "_law_row", "_law_many_here", "_law_near", "_law_s", "_law_it", "_law_t", "_law_j"] ["_law_garden_here", "_law_n"] (defScope s__law_kept) := ⟨rfl, rfl, rfl, by decide +kernel, rfl, by decide +kernel, by decide +kernel⟩
theorem ok__law_kept {f : Addr} {fd : FuncData} (F : Fun K "_law_kept" "_law_kept" s__law_kept f fd) (N : Nms mg) (h__law_in : Has P w K mg base "_law_in" 1 ["_law_base", "_law_tie_here", "_law_place"] (sp3 ⟨T, none⟩ phi__law_in)) : FnOk P w K mg base CX0 2 f fd ["_law_garden_here", "_law_n"] (sp3 ⟨T, none⟩ phi__law_kept) := by
  refine fn3 F sc__law_kept (fun ds QD h => ?_) (fun cdv A outer s H E hr => ⟨_, _, (by have hu := hr.units; exact qss_cons (qs_asg (q_var 0) (qg_tupK (n := 2) rfl (qgs_cons (qg_name (i := 3) sc__law_kept.nd) (qgs_cons (qg_name (i := 4) sc__law_kept.nd) qgs_nil)))) (qss_cons (qs_par (i := 5) (j := 6) rfl sc__law_kept.nd rfl rfl (by decide) rfl rfl (qa_cons (PDL.pde (ql_lc rfl sc__law_kept.nd (own := [("_law_t", 16), ("_law_tie_here", 8)]) (qi_enumTK rfl N.enumerate (q_ixK (q_var 3) q_int)) (blkOk_by (by rfl)) (fun _ _ _ _ _ => (qg_tupK (n := 2) rfl (qgs_cons (qg_name (i := 16) sc__law_kept.nd) (qgs_cons (qg_name (i := 8) sc__law_kept.nd) qgs_nil)))) (fun _ _ _ _ _ => qts_nil) (fun _ _ _ _ _ => (q_catK (q_var 8) (q_tup (qa_cons (q_tup (qa_cons (q_var 16) qa_nil)) qa_nil)))) (by decide) s)) (qa_cons (PDL.pde (ql_lc rfl sc__law_kept.nd (own := [("_law_p", 9)]) (qi_rng1 rfl N.range (q_ixK (q_var 3) q_int)) (blkOk_by (by rfl)) (fun _ _ _ _ _ => (qg_name (i := 9) sc__law_kept.nd)) (fun _ _ _ _ _ => qts_nil) (fun _ _ _ _ _ => (q_tup (qa_cons (q_tup qa_nil) (qa_cons (q_var 9) qa_nil)))) (by decide) s)) qa_nil)) (by rfl)) (qss_cons (qs_for PassesOwn.never rfl (qi_rng1 rfl N.range (q_var 1)) (qg_name (i := 2) sc__law_kept.nd) (qss_cons (qs_setL (i := 7) sc__law_kept.nd (ql_lst qa_nil)) (qss_cons (qs_for PassesOwn.never rfl (qi_listK (q_var 5)) (qg_name (i := 8) sc__law_kept.nd) (qss_cons (qs_asg (q_tup (qa_cons (q_cb call_lenK l_len rfl N.len PySem.boot_len (qa_cons (q_var 6) qa_nil)) (qa_cons (q_ixK (q_var 8) q_int) qa_nil))) (qg_tupK (n := 2) rfl (qgs_cons (qg_name (i := 10) sc__law_kept.nd) (qgs_cons (qg_name (i := 11) sc__law_kept.nd) qgs_nil)))) (qss_cons (qs_asg (q_ixK (q_var 4) (q_ixK (q_var 8) q_int)) (qg_tupK (n := 2) rfl (qgs_cons (qg_name (i := 12) sc__law_kept.nd) (qgs_cons (qg_name (i := 13) sc__law_kept.nd) qgs_nil)))) (qss_cons (qs_for PassesOwn.never rfl (qi_enumTK rfl N.enumerate (q_var 13)) (qg_tupK (n := 2) rfl (qgs_cons (qg_name (i := 14) sc__law_kept.nd) (qgs_cons (qg_name (i := 15) sc__law_kept.nd) qgs_nil))) (qss_one (qs_app 7 (q_tup (qa_cons (q_call h__law_in (hr.mono (by decide)) (qa_cons (q_var 10) (qa_cons (q_var 8) (qa_cons (q_ixK (q_var 15) q_int) qa_nil)))) (qa_cons (q_call h__law_in (hr.mono (by decide)) (qa_cons (q_var 10) (qa_cons (q_var 8) (qa_cons (q_ixK (q_var 15) q_int) qa_nil)))) (qa_cons (q_ixK (q_var 15) q_int) (qa_cons (q_catK (q_var 11) (q_tup (qa_cons (q_var 14) qa_nil))) qa_nil)))))))) (qss_one (qs_set (i := 6) sc__law_kept.nd (q_catL (q_var 6) (PDL.pde (ql_lc rfl sc__law_kept.nd (own := [("_law_j", 17)]) (qi_rng2 rfl N.range q_int (q_var 12)) (blkOk_by (by rfl)) (fun _ _ _ _ _ => (qg_name (i := 17) sc__law_kept.nd)) (fun _ _ _ _ _ => qts_nil) (fun _ _ _ _ _ => (q_tup (qa_cons (q_var 11) (qa_cons (q_var 17) qa_nil)))) (by decide) s))))))))) (qss_fz 7 (qss_one (qs_set (i := 5) sc__law_kept.nd (PDL.pde (ql_sorted hu rfl N.sorted (q_var 7))))))))) (qss_one (qs_ret (q_tup (qa_cons (q_var 5) (qa_cons (q_var 6) qa_nil)))))))), fun ds QD h => ?_⟩)
  · obtain ⟨g, n, rfl, _⟩ := h; rfl
  · obtain ⟨g, n, rfl, ok, fit, hn, h⟩ := h
    have hs := ok.start.small
    have hf := ok.start.few
    repeat (first | refine ⟨_, rfl, ?_⟩ | refine ⟨_, _, rfl, rfl, ?_⟩ | refine ⟨_, _, _, .inr rfl, rfl, rfl, ?_⟩ | refine ⟨_, _, _, .inl rfl, rfl, rfl, ?_⟩ | refine ⟨_, .inr rfl, ?_⟩ | refine ⟨_, .inl rfl, ?_⟩ | refine ⟨(by intro s z; cases z), ?_⟩ | refine ⟨Nat.le_of_ble_eq_true rfl, ?_⟩ | refine ⟨rfl, ?_⟩ | refine iteT ?_ | refine iteF ?_ | refine ⟨_, _, rfl, ?_⟩ | refine ⟨_, _, _, rfl, ?_⟩)
    rw [enD_num]
    refine lc_map (enc := fun q : Nat × Tie => PyData.tuple [eN q.1, eTie q.2]) (f := fun q => eT4 (q.2, [q.1])) (num 0 g.1.2) [] (by simp [num_len]; omega) (fun q hq K1 hK1 => ?_) ?_
    · repeat (first | refine ⟨_, rfl, ?_⟩ | refine ⟨_, _, rfl, rfl, ?_⟩ | refine ⟨_, _, _, .inr rfl, rfl, rfl, ?_⟩ | refine ⟨_, _, _, .inl rfl, rfl, rfl, ?_⟩ | refine ⟨_, .inr rfl, ?_⟩ | refine ⟨_, .inl rfl, ?_⟩ | refine ⟨(by intro s z; cases z), ?_⟩ | refine ⟨Nat.le_of_ble_eq_true rfl, ?_⟩ | refine ⟨rfl, ?_⟩ | refine iteT ?_ | refine iteF ?_ | refine ⟨_, _, rfl, ?_⟩ | refine ⟨_, _, _, rfl, ?_⟩)
      exact hK1
    repeat (first | refine ⟨_, rfl, ?_⟩ | refine ⟨_, _, rfl, rfl, ?_⟩ | refine ⟨_, _, _, .inr rfl, rfl, rfl, ?_⟩ | refine ⟨_, _, _, .inl rfl, rfl, rfl, ?_⟩ | refine ⟨_, .inr rfl, ?_⟩ | refine ⟨_, .inl rfl, ?_⟩ | refine ⟨(by intro s z; cases z), ?_⟩ | refine ⟨Nat.le_of_ble_eq_true rfl, ?_⟩ | refine ⟨rfl, ?_⟩ | refine iteT ?_ | refine iteF ?_ | refine ⟨_, _, rfl, ?_⟩ | refine ⟨_, _, _, rfl, ?_⟩)
    refine ⟨by omega, by omega, ?_⟩
    rw [rgN0]
    refine lc_map (enc := eN) (f := fun p => eAdr ([], p)) (List.range g.1.1) [] (by simp; omega) (fun p hp K1 hK1 => ?_) ?_
    · repeat (first | refine ⟨_, rfl, ?_⟩ | refine ⟨_, _, rfl, rfl, ?_⟩ | refine ⟨_, _, _, .inr rfl, rfl, rfl, ?_⟩ | refine ⟨_, _, _, .inl rfl, rfl, rfl, ?_⟩ | refine ⟨_, .inr rfl, ?_⟩ | refine ⟨_, .inl rfl, ?_⟩ | refine ⟨(by intro s z; cases z), ?_⟩ | refine ⟨Nat.le_of_ble_eq_true rfl, ?_⟩ | refine ⟨rfl, ?_⟩ | refine iteT ?_ | refine iteF ?_ | refine ⟨_, _, rfl, ?_⟩ | refine ⟨_, _, _, rfl, ?_⟩)
      exact hK1
    repeat (first | refine ⟨_, rfl, ?_⟩ | refine ⟨_, _, rfl, rfl, ?_⟩ | refine ⟨_, _, _, .inr rfl, rfl, rfl, ?_⟩ | refine ⟨_, _, _, .inl rfl, rfl, rfl, ?_⟩ | refine ⟨_, .inr rfl, ?_⟩ | refine ⟨_, .inl rfl, ?_⟩ | refine ⟨(by intro s z; cases z), ?_⟩ | refine ⟨Nat.le_of_ble_eq_true rfl, ?_⟩ | refine ⟨rfl, ?_⟩ | refine iteT ?_ | refine iteF ?_ | refine ⟨_, _, rfl, ?_⟩ | refine ⟨_, _, _, rfl, ?_⟩)
    refine ⟨by omega, by omega, ?_⟩
    rw [rgN0]
    refine for_ind (enc := eN) (fun i ρ => ∃ c2 c7 c8 c9 c10 c11 c12 c13 c14 c15 c16 c17, ρ = [.dat (eGar g), .dat (eN n), c2, .dat (eWeb g.1), .dat (eBook g.2), .dat (.list ((stR g i).2.map eT4)), .dat (.list ((allA g i).map eAdr)), c7, c8, c9, c10, c11, c12, c13, c14, c15, c16, c17]) (List.range n) 0 _ ⟨.un, .un, .un, .un, .un, .un, .un, .un, .un, .un, .un, .un, ?_⟩ (fun i j ρ hi hI K' hK => ?_) (fun ρ hI => ?_)
    · simp [allA, stR, env0, Function.comp_def]
    · obtain ⟨c2, c7, c8, c9, c10, c11, c12, c13, c14, c15, c16, c17, rfl⟩ := hI
      rw [Nat.zero_add] at hK ⊢
      obtain ⟨hlt, rfl⟩ : i < n ∧ j = i := by
        have h1 := (List.getElem?_eq_some_iff.mp hi).1
        rw [List.length_range] at h1
        rw [List.getElem?_range h1] at hi
        exact ⟨h1, (Option.some.inj hi).symm⟩
      have f1 := fit.places (j + 1) (by omega)
      have f2 := fit.rows (j + 1) (by omega)
      have f3 := fit.rows j (by omega)
      have e1 : (foundR g.2 (stR g j).1 (stR g j).2).length = (stR g (j + 1)).2.length := (sortE_len _).symm
      have e2 : endR g.2 (stR g j).1 (stR g j).2 = (stR g (j + 1)).1 := rfl
      have e3 := allA_len g (j + 1)
      have e4 : allA g (j + 1) = allA g j ++ adrsOf g.2 (stR g j).2 := rfl
      have baseE : ∀ m, (allA g j ++ adrsOf g.2 ((stR g j).2.take m)).length = endR g.2 (stR g j).1 ((stR g j).2.take m) := fun m => by
        rw [List.length_append, allA_len, adrsOf_len, endR_sum]
      repeat (first | refine ⟨_, rfl, ?_⟩ | refine ⟨_, _, rfl, rfl, ?_⟩ | refine ⟨_, _, _, .inr rfl, rfl, rfl, ?_⟩ | refine ⟨_, _, _, .inl rfl, rfl, rfl, ?_⟩ | refine ⟨_, .inr rfl, ?_⟩ | refine ⟨_, .inl rfl, ?_⟩ | refine ⟨(by intro s z; cases z), ?_⟩ | refine ⟨Nat.le_of_ble_eq_true rfl, ?_⟩ | refine ⟨rfl, ?_⟩ | refine iteT ?_ | refine iteF ?_ | refine ⟨_, _, rfl, ?_⟩ | refine ⟨_, _, _, rfl, ?_⟩)
      refine for_ind (enc := eT4) (fun i ρ => ∃ c8 c9 c10 c11 c12 c13 c14 c15 c16 c17, ρ = [.dat (eGar g), .dat (eN n), .dat (eN j), .dat (eWeb g.1), .dat (eBook g.2), .dat (.list ((stR g j).2.map eT4)), .dat (.list ((allA g j ++ adrsOf g.2 ((stR g j).2.take i)).map eAdr)), .own ((foundR g.2 (stR g j).1 ((stR g j).2.take i)).map eT4), c8, c9, c10, c11, c12, c13, c14, c15, c16, c17]) (stR g j).2 0 _ ⟨c8, c9, c10, c11, c12, c13, c14, c15, c16, c17, ?_⟩ (fun i p ρ hi hI K2 hK2 => ?_) (fun ρ hI => ?_)
      · simp [adrsOf, foundR]
      · obtain ⟨c8, c9, c10, c11, c12, c13, c14, c15, c16, c17, rfl⟩ := hI
        rw [Nat.zero_add] at hK2 ⊢
        obtain ⟨hc, hrow⟩ := stR_row ok j p (List.mem_of_getElem? hi)
        obtain ⟨k1, k2, k3⟩ := ok.book.webs _ (kd_mem hc)
        obtain ⟨rest, hrest⟩ := take_add hi
        have hbase := baseE i
        have hfl : (foundR g.2 (stR g j).1 ((stR g j).2.take i)).length + (kd g.2 p.1.2.2).2.length ≤ 600 := by
          have e := congrArg (fun l => (foundR g.2 (stR g j).1 l).length) hrest
          simp only [foundR_app, foundR, List.length_append, kids_len] at e
          omega
        have hsz : (allA g j ++ adrsOf g.2 ((stR g j).2.take i)).length + inn g.2 p.1.2.2 ≤ 400 := by
          have e := congrArg (fun l => (adrsOf g.2 l).length) hrest
          rw [e4, List.length_append] at e3
          simp only [adrsOf_app, List.length_append, show p :: rest = [p] ++ rest from rfl, adrsOf_one, List.length_map, List.length_range] at e
          rw [List.length_append]
          omega
        repeat (first | refine ⟨_, rfl, ?_⟩ | refine ⟨_, _, rfl, rfl, ?_⟩ | refine ⟨_, _, _, .inr rfl, rfl, rfl, ?_⟩ | refine ⟨_, _, _, .inl rfl, rfl, rfl, ?_⟩ | refine ⟨_, .inr rfl, ?_⟩ | refine ⟨_, .inl rfl, ?_⟩ | refine ⟨(by intro s z; cases z), ?_⟩ | refine ⟨Nat.le_of_ble_eq_true rfl, ?_⟩ | refine ⟨rfl, ?_⟩ | refine iteT ?_ | refine iteF ?_ | refine ⟨_, _, rfl, ?_⟩ | refine ⟨_, _, _, rfl, ?_⟩)
        refine ix_book hc ?_
        repeat (first | refine ⟨_, rfl, ?_⟩ | refine ⟨_, _, rfl, rfl, ?_⟩ | refine ⟨_, _, _, .inr rfl, rfl, rfl, ?_⟩ | refine ⟨_, _, _, .inl rfl, rfl, rfl, ?_⟩ | refine ⟨_, .inr rfl, ?_⟩ | refine ⟨_, .inl rfl, ?_⟩ | refine ⟨(by intro s z; cases z), ?_⟩ | refine ⟨Nat.le_of_ble_eq_true rfl, ?_⟩ | refine ⟨rfl, ?_⟩ | refine iteT ?_ | refine iteF ?_ | refine ⟨_, _, rfl, ?_⟩ | refine ⟨_, _, _, rfl, ?_⟩)
        rw [enD_num, List.length_map, hbase]
        refine for_ind (enc := fun q : Nat × Tie => PyData.tuple [eN q.1, eTie q.2]) (fun m ρ => ∃ c9 c14 c15 c16 c17, ρ = [.dat (eGar g), .dat (eN n), .dat (eN j), .dat (eWeb g.1), .dat (eBook g.2), .dat (.list ((stR g j).2.map eT4)), .dat (.list ((allA g j ++ adrsOf g.2 ((stR g j).2.take i)).map eAdr)), .own ((foundR g.2 (stR g j).1 ((stR g j).2.take i) ++ (kids g.2 (endR g.2 (stR g j).1 ((stR g j).2.take i)) p).take m).map eT4), .dat (eT4 p), c9, .dat (eN (endR g.2 (stR g j).1 ((stR g j).2.take i))), .dat (eRow p.2), .dat (eN (kd g.2 p.1.2.2).1), .dat (.tuple ((kd g.2 p.1.2.2).2.map eTie)), c14, c15, c16, c17]) (num 0 (kd g.2 p.1.2.2).2) 0 _ ⟨c9, c14, c15, c16, c17, ?_⟩ (fun m q ρ hj hI K3 hK3 => ?_) (fun ρ hI => ?_)
        · rw [List.take_zero, List.append_nil]
          rfl
        · obtain ⟨c9, c14, c15, c16, c17, rfl⟩ := hI
          rw [Nat.zero_add] at hK3 ⊢
          obtain ⟨_, hq⟩ := num_mem (List.mem_of_getElem? hj)
          have hk : (kids g.2 (endR g.2 (stR g j).1 ((stR g j).2.take i)) p)[m]? = some (kidOf p (endR g.2 (stR g j).1 ((stR g j).2.take i)) q) := by
            unfold kids
            rw [List.getElem?_map, hj]
            rfl
          rw [take_succ hk] at hK3
          repeat (first | refine ⟨_, rfl, ?_⟩ | refine ⟨_, _, rfl, rfl, ?_⟩ | refine ⟨_, _, _, .inr rfl, rfl, rfl, ?_⟩ | refine ⟨_, _, _, .inl rfl, rfl, rfl, ?_⟩ | refine ⟨_, .inr rfl, ?_⟩ | refine ⟨_, .inl rfl, ?_⟩ | refine ⟨(by intro s z; cases z), ?_⟩ | refine ⟨Nat.le_of_ble_eq_true rfl, ?_⟩ | refine ⟨rfl, ?_⟩ | refine iteT ?_ | refine iteF ?_ | refine ⟨_, _, rfl, ?_⟩ | refine ⟨_, _, _, rfl, ?_⟩)
          refine ⟨?_, ?_⟩
          · rw [List.length_map, List.length_append, List.length_take, kids_len]
            omega
          repeat (first | refine ⟨_, rfl, ?_⟩ | refine ⟨_, _, rfl, rfl, ?_⟩ | refine ⟨_, _, _, .inr rfl, rfl, rfl, ?_⟩ | refine ⟨_, _, _, .inl rfl, rfl, rfl, ?_⟩ | refine ⟨_, .inr rfl, ?_⟩ | refine ⟨_, .inl rfl, ?_⟩ | refine ⟨(by intro s z; cases z), ?_⟩ | refine ⟨Nat.le_of_ble_eq_true rfl, ?_⟩ | refine ⟨rfl, ?_⟩ | refine iteT ?_ | refine iteF ?_ | refine ⟨_, _, rfl, ?_⟩ | refine ⟨_, _, _, rfl, ?_⟩)
          refine ⟨_, p.1, [eN p.1.2.2, eRow p.2], _, rfl, ?_⟩
          repeat (first | refine ⟨_, rfl, ?_⟩ | refine ⟨_, _, rfl, rfl, ?_⟩ | refine ⟨_, _, _, .inr rfl, rfl, rfl, ?_⟩ | refine ⟨_, _, _, .inl rfl, rfl, rfl, ?_⟩ | refine ⟨_, .inr rfl, ?_⟩ | refine ⟨_, .inl rfl, ?_⟩ | refine ⟨(by intro s z; cases z), ?_⟩ | refine ⟨Nat.le_of_ble_eq_true rfl, ?_⟩ | refine ⟨rfl, ?_⟩ | refine iteT ?_ | refine iteF ?_ | refine ⟨_, _, rfl, ?_⟩ | refine ⟨_, _, _, rfl, ?_⟩)
          refine ⟨_, p.1, [eN p.1.2.2, eRow p.2], _, rfl, ?_⟩
          repeat (first | refine ⟨_, rfl, ?_⟩ | refine ⟨_, _, rfl, rfl, ?_⟩ | refine ⟨_, _, _, .inr rfl, rfl, rfl, ?_⟩ | refine ⟨_, _, _, .inl rfl, rfl, rfl, ?_⟩ | refine ⟨_, .inr rfl, ?_⟩ | refine ⟨_, .inl rfl, ?_⟩ | refine ⟨(by intro s z; cases z), ?_⟩ | refine ⟨Nat.le_of_ble_eq_true rfl, ?_⟩ | refine ⟨rfl, ?_⟩ | refine iteT ?_ | refine iteF ?_ | refine ⟨_, _, rfl, ?_⟩ | refine ⟨_, _, _, rfl, ?_⟩)
          refine ⟨by simp; omega, ?_⟩
          repeat (first | refine ⟨_, rfl, ?_⟩ | refine ⟨_, _, rfl, rfl, ?_⟩ | refine ⟨_, _, _, .inr rfl, rfl, rfl, ?_⟩ | refine ⟨_, _, _, .inl rfl, rfl, rfl, ?_⟩ | refine ⟨_, .inr rfl, ?_⟩ | refine ⟨_, .inl rfl, ?_⟩ | refine ⟨(by intro s z; cases z), ?_⟩ | refine ⟨Nat.le_of_ble_eq_true rfl, ?_⟩ | refine ⟨rfl, ?_⟩ | refine iteT ?_ | refine iteF ?_ | refine ⟨_, _, rfl, ?_⟩ | refine ⟨_, _, _, rfl, ?_⟩)
          refine byEnv ?_ (hK3 _ ⟨c9, .dat (eN q.1), .dat (eTie q.2), c16, c17, rfl⟩)
          simp [eN, eT4, eRow, kidOf]
        · obtain ⟨c9, c14, c15, c16, c17, rfl⟩ := hI
          repeat (first | refine ⟨_, rfl, ?_⟩ | refine ⟨_, _, rfl, rfl, ?_⟩ | refine ⟨_, _, _, .inr rfl, rfl, rfl, ?_⟩ | refine ⟨_, _, _, .inl rfl, rfl, rfl, ?_⟩ | refine ⟨_, .inr rfl, ?_⟩ | refine ⟨_, .inl rfl, ?_⟩ | refine ⟨(by intro s z; cases z), ?_⟩ | refine ⟨Nat.le_of_ble_eq_true rfl, ?_⟩ | refine ⟨rfl, ?_⟩ | refine iteT ?_ | refine iteF ?_ | refine ⟨_, _, rfl, ?_⟩ | refine ⟨_, _, _, rfl, ?_⟩)
          refine ⟨⟨by omega, by omega, by have := k1.small; omega, by have := k1.small; omega⟩, ?_⟩
          have er : rgN 2 (((kd g.2 p.1.2.2).1 : Int) - 2).toNat = (List.range (inn g.2 p.1.2.2)).map fun i => eN (2 + i) := by
            unfold rgN
            have : (((kd g.2 p.1.2.2).1 : Int) - 2).toNat = inn g.2 p.1.2.2 := by unfold inn; omega
            rw [this]
            refine List.map_congr_left fun i _ => ?_
            simp [eN]
          rw [er]
          refine lc_map (enc := fun i => eN (2 + i)) (f := fun i => eAdr (p.2, 2 + i)) (List.range (inn g.2 p.1.2.2)) [] (by simp; omega) (fun q hq K4 hK4 => ?_) ?_
          · repeat (first | refine ⟨_, rfl, ?_⟩ | refine ⟨_, _, rfl, rfl, ?_⟩ | refine ⟨_, _, _, .inr rfl, rfl, rfl, ?_⟩ | refine ⟨_, _, _, .inl rfl, rfl, rfl, ?_⟩ | refine ⟨_, .inr rfl, ?_⟩ | refine ⟨_, .inl rfl, ?_⟩ | refine ⟨(by intro s z; cases z), ?_⟩ | refine ⟨Nat.le_of_ble_eq_true rfl, ?_⟩ | refine ⟨rfl, ?_⟩ | refine iteT ?_ | refine iteF ?_ | refine ⟨_, _, rfl, ?_⟩ | refine ⟨_, _, _, rfl, ?_⟩)
            exact hK4
          · repeat (first | refine ⟨_, rfl, ?_⟩ | refine ⟨_, _, rfl, rfl, ?_⟩ | refine ⟨_, _, _, .inr rfl, rfl, rfl, ?_⟩ | refine ⟨_, _, _, .inl rfl, rfl, rfl, ?_⟩ | refine ⟨_, .inr rfl, ?_⟩ | refine ⟨_, .inl rfl, ?_⟩ | refine ⟨(by intro s z; cases z), ?_⟩ | refine ⟨Nat.le_of_ble_eq_true rfl, ?_⟩ | refine ⟨rfl, ?_⟩ | refine iteT ?_ | refine iteF ?_ | refine ⟨_, _, rfl, ?_⟩ | refine ⟨_, _, _, rfl, ?_⟩)
            refine ⟨by simp only [List.length_append, List.length_map, List.length_range, List.length_nil] at hsz ⊢; omega, ?_⟩
            repeat (first | refine ⟨_, rfl, ?_⟩ | refine ⟨_, _, rfl, rfl, ?_⟩ | refine ⟨_, _, _, .inr rfl, rfl, rfl, ?_⟩ | refine ⟨_, _, _, .inl rfl, rfl, rfl, ?_⟩ | refine ⟨_, .inr rfl, ?_⟩ | refine ⟨_, .inl rfl, ?_⟩ | refine ⟨(by intro s z; cases z), ?_⟩ | refine ⟨Nat.le_of_ble_eq_true rfl, ?_⟩ | refine ⟨rfl, ?_⟩ | refine iteT ?_ | refine iteF ?_ | refine ⟨_, _, rfl, ?_⟩ | refine ⟨_, _, _, rfl, ?_⟩)
            have e5 : foundR g.2 (stR g j).1 ((stR g j).2.take i) ++ (kids g.2 (endR g.2 (stR g j).1 ((stR g j).2.take i)) p).take (0 + (num 0 (kd g.2 p.1.2.2).2).length) = foundR g.2 (stR g j).1 ((stR g j).2.take (i + 1)) := by
              rw [take_succ hi, foundR_app, foundR, foundR, List.append_nil, List.take_of_length_le (l := kids g.2 (endR g.2 (stR g j).1 ((stR g j).2.take i)) p) (by rw [kids_len, num_len]; omega)]
            rw [e5]
            refine byEnv ?_ (hK2 _ ⟨.dat (eT4 p), c9, .dat (eN (endR g.2 (stR g j).1 ((stR g j).2.take i))), .dat (eRow p.2), .dat (eN (kd g.2 p.1.2.2).1), .dat (.tuple ((kd g.2 p.1.2.2).2.map eTie)), c14, c15, c16, c17, rfl⟩)
            rw [take_succ hi, adrsOf_app, adrsOf_one]
            simp [Function.comp_def]
      · obtain ⟨c8, c9, c10, c11, c12, c13, c14, c15, c16, c17, rfl⟩ := hI
        rw [Nat.zero_add, List.take_length]
        repeat (first | refine ⟨_, rfl, ?_⟩ | refine ⟨_, _, rfl, rfl, ?_⟩ | refine ⟨_, _, _, .inr rfl, rfl, rfl, ?_⟩ | refine ⟨_, _, _, .inl rfl, rfl, rfl, ?_⟩ | refine ⟨_, .inr rfl, ?_⟩ | refine ⟨_, .inl rfl, ?_⟩ | refine ⟨(by intro s z; cases z), ?_⟩ | refine ⟨Nat.le_of_ble_eq_true rfl, ?_⟩ | refine ⟨rfl, ?_⟩ | refine iteT ?_ | refine iteF ?_ | refine ⟨_, _, rfl, ?_⟩ | refine ⟨_, _, _, rfl, ?_⟩)
        refine ⟨sortOk enc_t4 (fun b => ⟨_, _, rfl⟩) (by omega), ?_⟩
        rw [srtD_map, sortT4]
        repeat (first | refine ⟨_, rfl, ?_⟩ | refine ⟨_, _, rfl, rfl, ?_⟩ | refine ⟨_, _, _, .inr rfl, rfl, rfl, ?_⟩ | refine ⟨_, _, _, .inl rfl, rfl, rfl, ?_⟩ | refine ⟨_, .inr rfl, ?_⟩ | refine ⟨_, .inl rfl, ?_⟩ | refine ⟨(by intro s z; cases z), ?_⟩ | refine ⟨Nat.le_of_ble_eq_true rfl, ?_⟩ | refine ⟨rfl, ?_⟩ | refine iteT ?_ | refine iteF ?_ | refine ⟨_, _, rfl, ?_⟩ | refine ⟨_, _, _, rfl, ?_⟩)
        exact hK _ ⟨_, _, _, _, _, _, _, _, _, _, _, _, rfl⟩
    · obtain ⟨c2, c7, c8, c9, c10, c11, c12, c13, c14, c15, c16, c17, rfl⟩ := hI
      rw [Nat.zero_add, List.length_range]
      repeat (first | refine ⟨_, rfl, ?_⟩ | refine ⟨_, _, rfl, rfl, ?_⟩ | refine ⟨_, _, _, .inr rfl, rfl, rfl, ?_⟩ | refine ⟨_, _, _, .inl rfl, rfl, rfl, ?_⟩ | refine ⟨_, .inr rfl, ?_⟩ | refine ⟨_, .inl rfl, ?_⟩ | refine ⟨(by intro s z; cases z), ?_⟩ | refine ⟨Nat.le_of_ble_eq_true rfl, ?_⟩ | refine ⟨rfl, ?_⟩ | refine iteT ?_ | refine iteF ?_ | refine ⟨_, _, rfl, ?_⟩ | refine ⟨_, _, _, rfl, ?_⟩)
      exact h
end
end L3
namespace L3
open PySem L2
open PySem.Spec
theorem cut_drop (xs : List PyData) (k : Nat) : cutD xs (some (k : Int)) none = xs.drop k := by
  unfold cutD
  rw [HT.sIx_none, HT.sIx_nat]
  by_cases h : k ≤ xs.length
  · rw [Nat.min_eq_left h, List.take_of_length_le (by rw [List.length_drop]; omega)]
  · rw [Nat.min_eq_right (by omega), List.drop_of_length_le (Nat.le_refl _), List.drop_of_length_le (by omega), List.take_nil]
section
variable {P : Program} {w : World} {K : PySem.W.Frag} {mg : Str → Option Value} {base : Heap} {T : List (Addr × Str)}
def phi__law_renaming : Phi := fun ds Q => ∃ g pw n ix, ds = [eGar g, eBook pw, eN n] ∧ RenOk g pw n ix ∧ Q (eRow (renF g n ix))
abbrev s__law_renaming : Stmt := topS 73
theorem sc__law_renaming : FnScope ["_law_garden_here", "_law_power", "_law_n", "_law_found", "_law_start_here", "_law_book_here", "_law_t", "_law_tie_here", "_law_single", "_law_j", "_law_row", "_law_inner"] ["_law_garden_here", "_law_power", "_law_n"] (defScope s__law_renaming) := ⟨rfl, rfl, rfl, by decide +kernel, rfl, by decide +kernel, by decide +kernel⟩
theorem ok__law_renaming {f : Addr} {fd : FuncData} (F : Fun K "_law_renaming" "_law_renaming" s__law_renaming f fd) (N : Nms mg) (h_address_of : Has P w K mg base "address_of" 12 ["garden", "n", "place"] (sp3 ⟨T, none⟩ phi_address_of)) (h_place_of : Has P w K mg base "place_of" 12 ["garden", "n", "address"] (sp3 ⟨T, none⟩ phi_place_of)) : FnOk P w K mg base CX0 13 f fd ["_law_garden_here", "_law_power", "_law_n"] (sp3 ⟨T, none⟩ phi__law_renaming) := by
  refine fn3 F sc__law_renaming (fun ds QD h => ?_) (fun cdv A outer s H E hr => ⟨_, _, (by exact qss_cons (qs_asg (q_var 0) (qg_tupK (n := 2) rfl (qgs_cons (qg_name (i := 4) sc__law_renaming.nd) (qgs_cons (qg_name (i := 5) sc__law_renaming.nd) qgs_nil)))) (qss_cons (qs_setL (i := 3) sc__law_renaming.nd (ql_rg rfl rfl N.list (qr_1 rfl N.range (q_ixK (q_var 4) q_int)))) (qss_cons (qs_for PassesOwn.never rfl (qi_enumTK rfl N.enumerate (q_ixK (q_var 4) q_int)) (qg_tupK (n := 2) rfl (qgs_cons (qg_name (i := 6) sc__law_renaming.nd) (qgs_cons (qg_name (i := 7) sc__law_renaming.nd) qgs_nil))) (qss_cons (qs_set (i := 8) sc__law_renaming.nd (q_tup (qa_cons (q_tup (qa_cons q_int (qa_cons (q_tup (qa_cons (q_tup (qa_cons q_int (qa_cons q_int (qa_cons (q_ixK (q_var 7) q_int) qa_nil)))) qa_nil)) qa_nil))) (qa_cons (q_var 5) qa_nil)))) (qss_one (qs_for PassesOwn.never rfl (qi_rng2 rfl N.range q_int (q_ixK (q_ixK (q_var 1) (q_ixK (q_var 7) q_int)) q_int)) (qg_name (i := 9) sc__law_renaming.nd) (qss_cons (qs_asg (q_call h_address_of (hr.mono (by decide)) (qa_cons (q_var 8) (qa_cons (q_var 2) (qa_cons (q_var 9) qa_nil)))) (qg_tupK (n := 2) rfl (qgs_cons (qg_name (i := 10) sc__law_renaming.nd) (qgs_cons (qg_name (i := 11) sc__law_renaming.nd) qgs_nil)))) (qss_one (qs_app 3 (q_call h_place_of (hr.mono (by decide)) (qa_cons (q_var 0) (qa_cons (q_var 2) (qa_cons (q_tup (qa_cons (q_catK (q_tup (qa_cons (q_var 6) qa_nil)) (q_slTK (q_var 10) (qo_some q_int) qo_none)) (qa_cons (q_var 11) qa_nil))) qa_nil))))))))))) (qss_fz 3 (qss_one (qs_ret (q_cty call_tuple_of l_tuple rfl N.tuple bt_tuple (qa_cons (q_var 3) qa_nil)))))))), fun ds QD h => ?_⟩)
  · obtain ⟨g, pw, n, ix, rfl, _⟩ := h; rfl
  · obtain ⟨g, pw, n, ix, rfl, ok, h⟩ := h
    have hs := ok.run.ok.tiny
    repeat (first | refine ⟨_, rfl, ?_⟩ | refine ⟨_, _, rfl, rfl, ?_⟩ | refine ⟨_, _, _, .inr rfl, rfl, rfl, ?_⟩ | refine ⟨_, _, _, .inl rfl, rfl, rfl, ?_⟩ | refine ⟨_, .inr rfl, ?_⟩ | refine ⟨_, .inl rfl, ?_⟩ | refine ⟨(by intro s z; cases z), ?_⟩ | refine ⟨Nat.le_of_ble_eq_true rfl, ?_⟩ | refine ⟨rfl, ?_⟩ | refine iteT ?_ | refine iteF ?_ | refine ⟨_, _, rfl, ?_⟩ | refine ⟨_, _, _, rfl, ?_⟩)
    have er : RgOk 0 (g.1.1 : Int) ∧ rgD 0 (g.1.1 : Int) = (List.range g.1.1).map eN := ⟨RgOk.of_le (by omega) (by omega) (by omega) (by omega), by
      have := rgD_nat 0 g.1.1
      simp at this
      exact this⟩
    refine ⟨er.1, ?_⟩
    rw [er.2]
    repeat (first | refine ⟨_, rfl, ?_⟩ | refine ⟨_, _, rfl, rfl, ?_⟩ | refine ⟨_, _, _, .inr rfl, rfl, rfl, ?_⟩ | refine ⟨_, _, _, .inl rfl, rfl, rfl, ?_⟩ | refine ⟨_, .inr rfl, ?_⟩ | refine ⟨_, .inl rfl, ?_⟩ | refine ⟨(by intro s z; cases z), ?_⟩ | refine ⟨Nat.le_of_ble_eq_true rfl, ?_⟩ | refine ⟨rfl, ?_⟩ | refine iteT ?_ | refine iteF ?_ | refine ⟨_, _, rfl, ?_⟩ | refine ⟨_, _, _, rfl, ?_⟩)
    rw [enD_num]
    have hlen : ∀ i, ((num 0 g.1.2).take i).length ≤ 10 := fun i => by
      have := num_len 0 g.1.2
      rw [List.length_take]
      omega
    have hpart : ∀ q ∈ num 0 g.1.2, (renPart g n ix q).length ≤ 400 := fun q hq => by
      have h1 := (ok.each q.2 (List.mem_of_getElem? (num_mem hq).2)).2.2.fit.places n (Nat.le_refl _)
      unfold renPart
      rw [List.length_map, List.length_range]
      omega
    have hbig : ∀ l : List (Nat × Tie), (∀ q ∈ l, q ∈ num 0 g.1.2) → (l.flatMap (renPart g n ix)).length ≤ 400 * l.length := fun l => by
      induction l with
      | nil => intro _; simp
      | cons q l ih =>
        intro hq
        have h1 := hpart q (hq q List.mem_cons_self)
        have h2 := ih fun r hr => hq r (List.mem_cons_of_mem _ hr)
        rw [List.flatMap_cons, List.length_append, List.length_cons]
        omega
    refine for_ind (enc := fun q : Nat × Tie => PyData.tuple [eN q.1, eTie q.2]) (fun i ρ => ∃ c6 c7 c8 c9 c10 c11, ρ = [.dat (eGar g), .dat (eBook pw), .dat (eN n), .own ((List.range g.1.1 ++ ((num 0 g.1.2).take i).flatMap (renPart g n ix)).map eN), .dat (eWeb g.1), .dat (eBook g.2), c6, c7, c8, c9, c10, c11]) (num 0 g.1.2) 0 _ ⟨.un, .un, .un, .un, .un, .un, ?_⟩ (fun i q ρ hi hI K' hK => ?_) (fun ρ hI => ?_)
    · simp [env0]
    · obtain ⟨c6, c7, c8, c9, c10, c11, rfl⟩ := hI
      rw [Nat.zero_add] at hK ⊢
      have hq := List.mem_of_getElem? hi
      obtain ⟨hc, hpw, run1⟩ := ok.each q.2 (List.mem_of_getElem? (num_mem hq).2)
      have hW := run1.fit.places n (Nat.le_refl _)
      have hl := hlen i
      have hb := hbig ((num 0 g.1.2).take i) fun r hr => List.mem_of_mem_take hr
      repeat (first | refine ⟨_, rfl, ?_⟩ | refine ⟨_, _, rfl, rfl, ?_⟩ | refine ⟨_, _, _, .inr rfl, rfl, rfl, ?_⟩ | refine ⟨_, _, _, .inl rfl, rfl, rfl, ?_⟩ | refine ⟨_, .inr rfl, ?_⟩ | refine ⟨_, .inl rfl, ?_⟩ | refine ⟨(by intro s z; cases z), ?_⟩ | refine ⟨Nat.le_of_ble_eq_true rfl, ?_⟩ | refine ⟨rfl, ?_⟩ | refine iteT ?_ | refine iteF ?_ | refine ⟨_, _, rfl, ?_⟩ | refine ⟨_, _, _, rfl, ?_⟩)
      refine ix_book hc ?_
      repeat (first | refine ⟨_, rfl, ?_⟩ | refine ⟨_, _, rfl, rfl, ?_⟩ | refine ⟨_, _, _, .inr rfl, rfl, rfl, ?_⟩ | refine ⟨_, _, _, .inl rfl, rfl, rfl, ?_⟩ | refine ⟨_, .inr rfl, ?_⟩ | refine ⟨_, .inl rfl, ?_⟩ | refine ⟨(by intro s z; cases z), ?_⟩ | refine ⟨Nat.le_of_ble_eq_true rfl, ?_⟩ | refine ⟨rfl, ?_⟩ | refine iteT ?_ | refine iteF ?_ | refine ⟨_, _, rfl, ?_⟩ | refine ⟨_, _, _, rfl, ?_⟩)
      refine ⟨⟨by omega, by omega, by omega, by omega⟩, ?_⟩
      have er : rgN 2 (((kd pw q.2.2.2).1 : Int) - 2).toNat = (List.range ((W (single g.2 q.2.2.2) n).1 - 2)).map fun i => eN (2 + i) := by
        unfold rgN
        have : (((kd pw q.2.2.2).1 : Int) - 2).toNat = (W (single g.2 q.2.2.2) n).1 - 2 := by rw [hpw]; omega
        rw [this]
        refine List.map_congr_left fun i _ => ?_
        simp [eN]
      rw [er]
      refine for_ind (enc := fun i => eN (2 + i)) (fun m ρ => ∃ c9 c10 c11, ρ = [.dat (eGar g), .dat (eBook pw), .dat (eN n), .own ((List.range g.1.1 ++ ((num 0 g.1.2).take i).flatMap (renPart g n ix) ++ (renPart g n ix q).take m).map eN), .dat (eWeb g.1), .dat (eBook g.2), .dat (eN q.1), .dat (eTie q.2), .dat (eGar (single g.2 q.2.2.2)), c9, c10, c11]) (List.range ((W (single g.2 q.2.2.2) n).1 - 2)) 0 _ ⟨c9, c10, c11, ?_⟩ (fun m j ρ hj hI K2 hK2 => ?_) (fun ρ hI => ?_)
      · rw [List.take_zero, List.append_nil]
        rfl
      · obtain ⟨c9, c10, c11, rfl⟩ := hI
        rw [Nat.zero_add] at hK2 ⊢
        obtain ⟨hlt, rfl⟩ : m < (W (single g.2 q.2.2.2) n).1 - 2 ∧ j = m := by
          have h1 := (List.getElem?_eq_some_iff.mp hj).1
          rw [List.length_range] at h1
          rw [List.getElem?_range h1] at hj
          exact ⟨h1, (Option.some.inj hj).symm⟩
        obtain ⟨a, ha, hal, aok, aln, afirst⟩ := ok.adr q hq j hlt
        have hcut : cutD (List.map eN a.1) (some 1) none = (a.1.drop 1).map eN := by
          have := cut_drop (List.map eN a.1) 1
          rw [List.map_drop]
          exact this
        have hge : (renPart g n ix q)[j]? = some (ix (toRow q.1 a)) := by
          unfold renPart
          rw [List.getElem?_map, List.getElem?_range hlt]
          show some (ix (toRow q.1 ((allA (single g.2 q.2.2.2) n).getD (2 + j) ([], 0)))) = _
          rw [List.getD_eq_getElem?_getD, ha]
          rfl
        rw [take_succ hge] at hK2
        repeat (first | refine ⟨_, rfl, ?_⟩ | refine ⟨_, _, rfl, rfl, ?_⟩ | refine ⟨_, _, _, .inr rfl, rfl, rfl, ?_⟩ | refine ⟨_, _, _, .inl rfl, rfl, rfl, ?_⟩ | refine ⟨_, .inr rfl, ?_⟩ | refine ⟨_, .inl rfl, ?_⟩ | refine ⟨(by intro s z; cases z), ?_⟩ | refine ⟨Nat.le_of_ble_eq_true rfl, ?_⟩ | refine ⟨rfl, ?_⟩ | refine iteT ?_ | refine iteF ?_ | refine ⟨_, _, rfl, ?_⟩ | refine ⟨_, _, _, rfl, ?_⟩)
        refine ⟨run1.ok, run1.n9, run1.fit, run1.sfit, by omega, a, ha, ?_⟩
        repeat (first | refine ⟨_, rfl, ?_⟩ | refine ⟨_, _, rfl, rfl, ?_⟩ | refine ⟨_, _, _, .inr rfl, rfl, rfl, ?_⟩ | refine ⟨_, _, _, .inl rfl, rfl, rfl, ?_⟩ | refine ⟨_, .inr rfl, ?_⟩ | refine ⟨_, .inl rfl, ?_⟩ | refine ⟨(by intro s z; cases z), ?_⟩ | refine ⟨Nat.le_of_ble_eq_true rfl, ?_⟩ | refine ⟨rfl, ?_⟩ | refine iteT ?_ | refine iteF ?_ | refine ⟨_, _, rfl, ?_⟩ | refine ⟨_, _, _, rfl, ?_⟩)
        refine ⟨?_, ?_⟩
        · have := hpart q hq
          simp only [List.length_map, List.length_append, List.length_range, List.length_take] at hb hl ⊢
          omega
        repeat (first | refine ⟨_, rfl, ?_⟩ | refine ⟨_, _, rfl, rfl, ?_⟩ | refine ⟨_, _, _, .inr rfl, rfl, rfl, ?_⟩ | refine ⟨_, _, _, .inl rfl, rfl, rfl, ?_⟩ | refine ⟨_, .inr rfl, ?_⟩ | refine ⟨_, .inl rfl, ?_⟩ | refine ⟨(by intro s z; cases z), ?_⟩ | refine ⟨Nat.le_of_ble_eq_true rfl, ?_⟩ | refine ⟨rfl, ?_⟩ | refine iteT ?_ | refine iteF ?_ | refine ⟨_, _, rfl, ?_⟩ | refine ⟨_, _, _, rfl, ?_⟩)
        rw [hcut]
        refine ⟨by simp; omega, ?_⟩
        repeat (first | refine ⟨_, rfl, ?_⟩ | refine ⟨_, _, rfl, rfl, ?_⟩ | refine ⟨_, _, _, .inr rfl, rfl, rfl, ?_⟩ | refine ⟨_, _, _, .inl rfl, rfl, rfl, ?_⟩ | refine ⟨_, .inr rfl, ?_⟩ | refine ⟨_, .inl rfl, ?_⟩ | refine ⟨(by intro s z; cases z), ?_⟩ | refine ⟨Nat.le_of_ble_eq_true rfl, ?_⟩ | refine ⟨rfl, ?_⟩ | refine iteT ?_ | refine iteF ?_ | refine ⟨_, _, rfl, ?_⟩ | refine ⟨_, _, _, rfl, ?_⟩)
        refine ⟨g, n, toRow q.1 a, rfl, ok.run.ok, ok.run.n9, ok.run.fit, ok.run.sfit, aok, aln, _, afirst.1, afirst.2, ?_⟩
        refine byEnv ?_ (hK2 _ ⟨.dat (eN (2 + j)), .dat (eRow a.1), .dat (eN a.2), rfl⟩)
        rw [← List.append_assoc, List.map_append (l₂ := [ix (toRow q.1 a)])]
        rfl
      · obtain ⟨c9, c10, c11, rfl⟩ := hI
        have e : (renPart g n ix q).take (0 + (List.range ((W (single g.2 q.2.2.2) n).1 - 2)).length) = renPart g n ix q := List.take_of_length_le (by unfold renPart; simp)
        have e2 : List.range g.1.1 ++ ((num 0 g.1.2).take i).flatMap (renPart g n ix) ++ renPart g n ix q = List.range g.1.1 ++ ((num 0 g.1.2).take (i + 1)).flatMap (renPart g n ix) := by
          rw [take_succ hi, List.flatMap_append]
          simp
        rw [e, e2]
        exact hK _ ⟨_, _, _, _, _, _, rfl⟩
    · obtain ⟨c6, c7, c8, c9, c10, c11, rfl⟩ := hI
      rw [Nat.zero_add, List.take_length]
      repeat (first | refine ⟨_, rfl, ?_⟩ | refine ⟨_, _, rfl, rfl, ?_⟩ | refine ⟨_, _, _, .inr rfl, rfl, rfl, ?_⟩ | refine ⟨_, _, _, .inl rfl, rfl, rfl, ?_⟩ | refine ⟨_, .inr rfl, ?_⟩ | refine ⟨_, .inl rfl, ?_⟩ | refine ⟨(by intro s z; cases z), ?_⟩ | refine ⟨Nat.le_of_ble_eq_true rfl, ?_⟩ | refine ⟨rfl, ?_⟩ | refine iteT ?_ | refine iteF ?_ | refine ⟨_, _, rfl, ?_⟩ | refine ⟨_, _, _, rfl, ?_⟩)
      exact h
end
end L3
namespace L3
open PySem L2
open PySem.Spec
def dueD (b : Book) (v : Web) (p : Nat) : PyData := .tuple [.tuple (lstF b.length (cntE v.2 false p)), .tuple (lstF b.length (cntE v.2 true p))]
structure DegOk (b pw : Book) (n : Nat) : Prop where
  few : pw.length ≤ 3
  few2 : b.length ≤ 3
  each : ∀ q ∈ num 0 pw, Run (single b q.1) n ∧ W (single b q.1) n = q.2 ∧ ShowOk (eWeb q.2)
  place : ∀ q ∈ num 0 pw, ∀ p, p < q.2.1 → ∃ a, FirstAt (allA (single b q.1) n) a p ∧ AdrOk (single b q.1) a ∧ a.1.length ≤ n ∧ (∀ s d, d < b.length → degF (single b q.1) a (n - a.1.length) s d = cntE q.2.2 s p d) ∧ ShowOk (dueD b q.2 p)
structure GoOk (g : Gar) (n : Nat) : Prop where
  run : Run g n
  ties : fsts (stR g n).2 = (W g n).2
  sh : ShowOk (eTies (W g n).2)
  each : ∀ p ∈ (stR g n).2, p.2 ≠ [] ∧ RowIn g.2 g.1 p.2 ∧ p.2.length ≤ 1000 ∧ ShowOk (eTie p.1) ∧ kindOf g p.2 = p.1.2.2 ∧
    (AdrOk g (endsI g p.2 (p.2.length - 1)).1 ∧ (endsI g p.2 (p.2.length - 1)).1.1.length ≤ n ∧ FirstAt (allA g n) (endsI g p.2 (p.2.length - 1)).1 p.1.1) ∧
    (AdrOk g (endsI g p.2 (p.2.length - 1)).2.1 ∧ (endsI g p.2 (p.2.length - 1)).2.1.1.length ≤ n ∧ FirstAt (allA g n) (endsI g p.2 (p.2.length - 1)).2.1 p.1.2.1)
theorem cut_map {α : Type} (e : α → PyData) (xs : List α) (lo hi : Option Int) : ∃ ys : List α, cutD (xs.map e) lo hi = ys.map e ∧ (∀ y ∈ ys, y ∈ xs) ∧ ys.length ≤ xs.length := by
  refine ⟨(xs.drop (HT.sIx (xs.map e).length 0 lo)).take (HT.sIx (xs.map e).length (xs.map e).length hi - HT.sIx (xs.map e).length 0 lo), ?_, fun y hy => List.mem_of_mem_drop (List.mem_of_mem_take hy), ?_⟩
  · unfold cutD
    rw [← List.map_drop, ← List.map_take]
  · rw [List.length_take, List.length_drop]
    omega
section
variable {P : Program} {w : World} {K : PySem.W.Frag} {mg : Str → Option Value} {base : Heap} {T : List (Addr × Str)}
def phi__law_have_degrees : Phi := fun ds Q => ∃ b pw n, ds = [eBook b, eBook pw, eN n] ∧ DegOk b pw n ∧ Q (.bool true)
abbrev s__law_have_degrees : Stmt := topS 74
theorem sc__law_have_degrees : FnScope ["_law_book_here", "_law_power", "_law_n", "_law_c", "_law_growth_here", "_law_single", "_law_place", "_law_address", "_law_due"] ["_law_book_here", "_law_power", "_law_n"] (defScope s__law_have_degrees) := ⟨rfl, rfl, rfl, by decide +kernel, rfl, by decide +kernel, by decide +kernel⟩
theorem ok__law_have_degrees {f : Addr} {fd : FuncData} (F : Fun K "_law_have_degrees" "_law_have_degrees" s__law_have_degrees f fd) (N : Nms mg) (k_address_of : HasK P w K mg base "address_of" 12 ["garden", "n", "place"] (sp3 ⟨T, none⟩ phi_address_of)) (h_grown : Has P w K mg base "grown" 11 ["garden", "n"] (sp3 ⟨T, none⟩ phi_grown)) (h__law_at : Has P w K mg base "_law_at" 1 ["_law_web_here", "_law_side", "_law_place", "_law_kinds"] (sp3 ⟨T, none⟩ phi__law_at)) (k_place_of : HasK P w K mg base "place_of" 12 ["garden", "n", "address"] (sp3 ⟨T, none⟩ phi_place_of)) (h_degrees : Has P w K mg base "degrees" 10 ["garden", "address", "n"] (sp3 ⟨T, none⟩ phi_degrees)) : FnG P w K mg base 13 f fd ["_law_book_here", "_law_power", "_law_n"] (sp3 ⟨T, none⟩ phi__law_have_degrees) := by
  refine fnG3 F sc__law_have_degrees (fun ds QD h => ?_) (fun cdv A outer s H E hg hr => ⟨_, _, (by exact qss_cons (qs_for PassesOwn.never rfl (qi_enumTK rfl N.enumerate (q_var 1)) (qg_tupK (n := 2) rfl (qgs_cons (qg_name (i := 3) sc__law_have_degrees.nd) (qgs_cons (qg_name (i := 4) sc__law_have_degrees.nd) qgs_nil))) (qss_cons (qs_set (i := 5) sc__law_have_degrees.nd (q_tup (qa_cons (q_tup (qa_cons q_int (qa_cons (q_tup (qa_cons (q_tup (qa_cons q_int (qa_cons q_int (qa_cons (q_var 3) qa_nil)))) qa_nil)) qa_nil))) (qa_cons (q_var 0) qa_nil)))) (qss_cons (qs_if (qt_cmp op_ne l_neS (by decide) (by decide) (q_repr (room65 hr) hg N.repr (q_call h_grown (hr.mono (by decide)) (qa_cons (q_var 5) (qa_cons (q_var 2) qa_nil)))) (q_repr (room65 hr) hg N.repr (q_var 4))) (qss_one (qs_ret q_bl)) (qss_nil)) (qss_one (qs_for PassesOwn.never rfl (qi_rng1 rfl N.range (q_ixK (q_var 4) q_int)) (qg_name (i := 6) sc__law_have_degrees.nd) (qss_cons (qs_set (i := 7) sc__law_have_degrees.nd (q_callK k_address_of (hr.mono (by decide)) (qk_cons (q_var 5) (qk_cons (q_var 2) (qk_cons (q_var 6) qk_nil))))) (qss_cons (qs_set (i := 8) sc__law_have_degrees.nd (q_tup (qa_cons (q_cty call_tuple_of l_tuple rfl N.tuple bt_tuple (qa_cons (q_call h__law_at (hr.mono (by decide)) (qa_cons (q_var 4) (qa_cons q_int (qa_cons (q_var 6) (qa_cons (q_cb call_lenK l_len rfl N.len PySem.boot_len (qa_cons (q_var 0) qa_nil)) qa_nil))))) qa_nil)) (qa_cons (q_cty call_tuple_of l_tuple rfl N.tuple bt_tuple (qa_cons (q_call h__law_at (hr.mono (by decide)) (qa_cons (q_var 4) (qa_cons q_int (qa_cons (q_var 6) (qa_cons (q_cb call_lenK l_len rfl N.len PySem.boot_len (qa_cons (q_var 0) qa_nil)) qa_nil))))) qa_nil)) qa_nil)))) (qss_one (qs_if (PDW.pdt (qw_or (qt_cmp op_ne l_neS (by decide) (by decide) (q_repr (room65 hr) hg N.repr (q_call h_degrees (hr.mono (by decide)) (qa_cons (q_var 5) (qa_cons (q_var 7) (qa_cons (q_var 2) qa_nil))))) (q_repr (room65 hr) hg N.repr (q_var 8))) (qw_or1 (qt_cmp op_ne l_neI (by decide) (by decide) (q_callK k_place_of (hr.mono (by decide)) (qk_cons (q_var 5) (qk_cons (q_var 2) (qk_cons (q_var 7) qk_nil)))) (q_var 6))))) (qss_one (qs_ret q_bl)) (qss_nil)))))))))) (qss_one (qs_ret q_bl))), fun ds QD h => ?_⟩)
  · obtain ⟨b, pw, n, rfl, _⟩ := h; rfl
  · obtain ⟨b, pw, n, rfl, ok, h⟩ := h
    have hk := ok.few2
    have hkl : (List.map eWeb b).length = b.length := List.length_map ..
    repeat (first | refine ⟨_, rfl, ?_⟩ | refine ⟨_, _, rfl, rfl, ?_⟩ | refine ⟨_, _, _, .inr rfl, rfl, rfl, ?_⟩ | refine ⟨_, _, _, .inl rfl, rfl, rfl, ?_⟩ | refine ⟨_, .inr rfl, ?_⟩ | refine ⟨_, .inl rfl, ?_⟩ | refine ⟨(by intro s z; cases z), ?_⟩ | refine ⟨Nat.le_of_ble_eq_true rfl, ?_⟩ | refine ⟨rfl, ?_⟩ | refine iteT ?_ | refine iteF ?_ | refine ⟨_, _, rfl, ?_⟩ | refine ⟨_, _, _, rfl, ?_⟩)
    rw [enD_num]
    refine for_ind (enc := fun q : Nat × Web => PyData.tuple [eN q.1, eWeb q.2]) (fun i ρ => ∃ c3 c4 c5 c6 c7 c8, ρ = [.dat (eBook b), .dat (eBook pw), .dat (eN n), c3, c4, c5, c6, c7, c8]) (num 0 pw) 0 _ ⟨.un, .un, .un, .un, .un, .un, rfl⟩ (fun i q ρ hi hI K' hK => ?_) (fun ρ hI => ?_)
    · obtain ⟨c3, c4, c5, c6, c7, c8, rfl⟩ := hI
      have hq := List.mem_of_getElem? hi
      obtain ⟨run1, hW, hsh⟩ := ok.each q hq
      have hsm := run1.fit.places n (Nat.le_refl _)
      have hfe := run1.fit.ties n (Nat.le_refl _)
      rw [hW] at hsm hfe
      repeat (first | refine ⟨_, rfl, ?_⟩ | refine ⟨_, _, rfl, rfl, ?_⟩ | refine ⟨_, _, _, .inr rfl, rfl, rfl, ?_⟩ | refine ⟨_, _, _, .inl rfl, rfl, rfl, ?_⟩ | refine ⟨_, .inr rfl, ?_⟩ | refine ⟨_, .inl rfl, ?_⟩ | refine ⟨(by intro s z; cases z), ?_⟩ | refine ⟨Nat.le_of_ble_eq_true rfl, ?_⟩ | refine ⟨rfl, ?_⟩ | refine iteT ?_ | refine iteF ?_ | refine ⟨_, _, rfl, ?_⟩ | refine ⟨_, _, _, rfl, ?_⟩)
      refine ⟨single b q.1, n, rfl, run1.ok, run1.n9, run1.fit, ?_⟩
      rw [hW]
      repeat (first | refine ⟨_, rfl, ?_⟩ | refine ⟨_, _, rfl, rfl, ?_⟩ | refine ⟨_, _, _, .inr rfl, rfl, rfl, ?_⟩ | refine ⟨_, _, _, .inl rfl, rfl, rfl, ?_⟩ | refine ⟨_, .inr rfl, ?_⟩ | refine ⟨_, .inl rfl, ?_⟩ | refine ⟨(by intro s z; cases z), ?_⟩ | refine ⟨Nat.le_of_ble_eq_true rfl, ?_⟩ | refine ⟨rfl, ?_⟩ | refine iteT ?_ | refine iteF ?_ | refine ⟨_, _, rfl, ?_⟩ | refine ⟨_, _, _, rfl, ?_⟩)
      refine ⟨hsh, ?_⟩
      refine ⟨_, rfl, _, rfl, hsh, _, _, rfl, rfl, _, rfl, iteN (by simp) ?_⟩
      repeat (first | refine ⟨_, rfl, ?_⟩ | refine ⟨_, _, rfl, rfl, ?_⟩ | refine ⟨_, _, _, .inr rfl, rfl, rfl, ?_⟩ | refine ⟨_, _, _, .inl rfl, rfl, rfl, ?_⟩ | refine ⟨_, .inr rfl, ?_⟩ | refine ⟨_, .inl rfl, ?_⟩ | refine ⟨(by intro s z; cases z), ?_⟩ | refine ⟨Nat.le_of_ble_eq_true rfl, ?_⟩ | refine ⟨rfl, ?_⟩ | refine iteT ?_ | refine iteF ?_ | refine ⟨_, _, rfl, ?_⟩ | refine ⟨_, _, _, rfl, ?_⟩)
      refine ⟨by omega, by omega, ?_⟩
      rw [rgN0]
      refine for_ind (enc := eN) (fun m ρ => ∃ c6 c7 c8, ρ = [.dat (eBook b), .dat (eBook pw), .dat (eN n), .dat (eN q.1), .dat (eWeb q.2), .dat (eGar (single b q.1)), c6, c7, c8]) (List.range q.2.1) 0 _ ⟨c6, c7, c8, rfl⟩ (fun m p ρ hm hI K2 hK2 => ?_) (fun ρ hI => ?_)
      · obtain ⟨c6, c7, c8, rfl⟩ := hI
        obtain ⟨hlt, rfl⟩ : m < q.2.1 ∧ p = m := by
          have h1 := (List.getElem?_eq_some_iff.mp hm).1
          rw [List.length_range] at h1
          rw [List.getElem?_range h1] at hm
          exact ⟨h1, (Option.some.inj hm).symm⟩
        obtain ⟨a, hfa, aok, aln, hdeg, hsd⟩ := ok.place q hq p hlt
        repeat (first | refine ⟨_, rfl, ?_⟩ | refine ⟨_, _, rfl, rfl, ?_⟩ | refine ⟨_, _, _, .inr rfl, rfl, rfl, ?_⟩ | refine ⟨_, _, _, .inl rfl, rfl, rfl, ?_⟩ | refine ⟨_, .inr rfl, ?_⟩ | refine ⟨_, .inl rfl, ?_⟩ | refine ⟨(by intro s z; cases z), ?_⟩ | refine ⟨Nat.le_of_ble_eq_true rfl, ?_⟩ | refine ⟨rfl, ?_⟩ | refine iteT ?_ | refine iteF ?_ | refine ⟨_, _, rfl, ?_⟩ | refine ⟨_, _, _, rfl, ?_⟩)
        refine ⟨run1.ok, run1.n9, run1.fit, run1.sfit, by rw [hW]; exact hlt, a, hfa.1, ?_⟩
        repeat (first | refine ⟨_, rfl, ?_⟩ | refine ⟨_, _, rfl, rfl, ?_⟩ | refine ⟨_, _, _, .inr rfl, rfl, rfl, ?_⟩ | refine ⟨_, _, _, .inl rfl, rfl, rfl, ?_⟩ | refine ⟨_, .inr rfl, ?_⟩ | refine ⟨_, .inl rfl, ?_⟩ | refine ⟨(by intro s z; cases z), ?_⟩ | refine ⟨Nat.le_of_ble_eq_true rfl, ?_⟩ | refine ⟨rfl, ?_⟩ | refine iteT ?_ | refine iteF ?_ | refine ⟨_, _, rfl, ?_⟩ | refine ⟨_, _, _, rfl, ?_⟩)
        refine ⟨q.2, false, p, b.length, by rw [hkl]; rfl, by omega, hk, ?_⟩
        repeat (first | refine ⟨_, rfl, ?_⟩ | refine ⟨_, _, rfl, rfl, ?_⟩ | refine ⟨_, _, _, .inr rfl, rfl, rfl, ?_⟩ | refine ⟨_, _, _, .inl rfl, rfl, rfl, ?_⟩ | refine ⟨_, .inr rfl, ?_⟩ | refine ⟨_, .inl rfl, ?_⟩ | refine ⟨(by intro s z; cases z), ?_⟩ | refine ⟨Nat.le_of_ble_eq_true rfl, ?_⟩ | refine ⟨rfl, ?_⟩ | refine iteT ?_ | refine iteF ?_ | refine ⟨_, _, rfl, ?_⟩ | refine ⟨_, _, _, rfl, ?_⟩)
        refine ⟨q.2, true, p, b.length, by rw [hkl]; rfl, by omega, hk, ?_⟩
        repeat (first | refine ⟨_, rfl, ?_⟩ | refine ⟨_, _, rfl, rfl, ?_⟩ | refine ⟨_, _, _, .inr rfl, rfl, rfl, ?_⟩ | refine ⟨_, _, _, .inl rfl, rfl, rfl, ?_⟩ | refine ⟨_, .inr rfl, ?_⟩ | refine ⟨_, .inl rfl, ?_⟩ | refine ⟨(by intro s z; cases z), ?_⟩ | refine ⟨Nat.le_of_ble_eq_true rfl, ?_⟩ | refine ⟨rfl, ?_⟩ | refine iteT ?_ | refine iteF ?_ | refine ⟨_, _, rfl, ?_⟩ | refine ⟨_, _, _, rfl, ?_⟩)
        have hD : PyData.tuple [.tuple (lstF (single b q.1).2.length (degF (single b q.1) a (n - a.1.length) false)), .tuple (lstF (single b q.1).2.length (degF (single b q.1) a (n - a.1.length) true))] = dueD b q.2 p := by
          unfold dueD
          show PyData.tuple [.tuple (lstF b.length (degF (single b q.1) a (n - a.1.length) false)), .tuple (lstF b.length (degF (single b q.1) a (n - a.1.length) true))] = _
          rw [lstF_congr fun d hd => hdeg false d hd, lstF_congr fun d hd => hdeg true d hd]
        refine ⟨run1.ok, aok, aln, run1.n9, ?_⟩
        rw [hD]
        refine ⟨_, rfl, hsd, ?_⟩
        refine ⟨_, rfl, _, rfl, hsd, _, _, rfl, rfl, _, rfl, iteN (by show (!decide (PyData.shown (dueD b q.2 p) = PyData.shown (dueD b q.2 p))) = false; simp) ?_⟩
        refine ⟨_, rfl, _, rfl, _, rfl, single b q.1, n, a, rfl, run1.ok, run1.n9, run1.fit, run1.sfit, aok, aln, p, hfa.1, hfa.2, ?_⟩
        refine ⟨_, rfl, _, _, rfl, rfl, _, rfl, iteN (by simp) ?_⟩
        exact hK2 _ ⟨_, _, _, rfl⟩
      · obtain ⟨c6, c7, c8, rfl⟩ := hI
        exact hK _ ⟨_, _, _, _, _, _, rfl⟩
    · obtain ⟨c3, c4, c5, c6, c7, c8, rfl⟩ := hI
      repeat (first | refine ⟨_, rfl, ?_⟩ | refine ⟨_, _, rfl, rfl, ?_⟩ | refine ⟨_, _, _, .inr rfl, rfl, rfl, ?_⟩ | refine ⟨_, _, _, .inl rfl, rfl, rfl, ?_⟩ | refine ⟨_, .inr rfl, ?_⟩ | refine ⟨_, .inl rfl, ?_⟩ | refine ⟨(by intro s z; cases z), ?_⟩ | refine ⟨Nat.le_of_ble_eq_true rfl, ?_⟩ | refine ⟨rfl, ?_⟩ | refine iteT ?_ | refine iteF ?_ | refine ⟨_, _, rfl, ?_⟩ | refine ⟨_, _, _, rfl, ?_⟩)
      exact h
def phi__law_go_on : Phi := fun ds Q => ∃ g n, ds = [eGar g, eN n] ∧ GoOk g n ∧ Q (.bool true)
abbrev s__law_go_on : Stmt := topS 75
theorem sc__law_go_on : FnScope ["_law_garden_here", "_law_n", "_law_tie_here", "_law_web_here", "_law_ties", "_law_ends"] ["_law_garden_here", "_law_n"] (defScope s__law_go_on) := ⟨rfl, rfl, rfl, by decide +kernel, rfl, by decide +kernel, by decide +kernel⟩
theorem ok__law_go_on {f : Addr} {fd : FuncData} (F : Fun K "_law_go_on" "_law_go_on" s__law_go_on f fd) (N : Nms mg) (h_grown : Has P w K mg base "grown" 11 ["garden", "n"] (sp3 ⟨T, none⟩ phi_grown)) (h_row_ends : Has P w K mg base "row_ends" 10 ["garden", "row"] (sp3 ⟨T, none⟩ phi_row_ends)) (h__law_kept : Has P w K mg base "_law_kept" 2 ["_law_garden_here", "_law_n"] (sp3 ⟨T, none⟩ phi__law_kept)) (h_place_of : Has P w K mg base "place_of" 12 ["garden", "n", "address"] (sp3 ⟨T, none⟩ phi_place_of)) (h_row_kind : Has P w K mg base "row_kind" 10 ["garden", "row"] (sp3 ⟨T, none⟩ phi_row_kind)) : FnG P w K mg base 13 f fd ["_law_garden_here", "_law_n"] (sp3 ⟨T, none⟩ phi__law_go_on) := by
  refine fnG3 F sc__law_go_on (fun ds QD h => ?_) (fun cdv A outer s H E hg hr => ⟨_, _, (by exact qss_cons (qs_par (i := 3) (j := 4) rfl sc__law_go_on.nd rfl rfl (by decide) rfl rfl (qa_cons (q_call h_grown (hr.mono (by decide)) (qa_cons (q_var 0) (qa_cons (q_var 1) qa_nil))) (qa_cons (q_ixK (q_call h__law_kept (hr.mono (by decide)) (qa_cons (q_var 0) (qa_cons (q_var 1) qa_nil))) q_int) qa_nil)) (by rfl)) (qss_cons (qs_if (qt_cmp op_ne l_neS (by decide) (by decide) (q_repr (room65 hr) hg N.repr (q_cty call_tuple_of l_tuple rfl N.tuple bt_tuple (qa_cons (PDL.pde (ql_lc rfl sc__law_go_on.nd (own := [("_law_tie_here", 2)]) (qi_listK (q_var 4)) (blkOk_by (by rfl)) (fun _ _ _ _ _ => (qg_name (i := 2) sc__law_go_on.nd)) (fun _ _ _ _ _ => qts_nil) (fun _ _ _ _ _ => (q_slTK (q_var 2) qo_none (qo_some q_int))) (by decide) s)) qa_nil))) (q_repr (room65 hr) hg N.repr (q_ixK (q_var 3) q_int))) (qss_one (qs_ret q_bl)) (qss_nil)) (qss_cons (qs_for PassesOwn.never rfl (qi_listK (q_catL (q_slLK (q_var 4) qo_none (qo_some q_int)) (q_slLK (q_var 4) (qo_some (q_neg q_int)) qo_none))) (qg_name (i := 2) sc__law_go_on.nd) (qss_cons (qs_set (i := 5) sc__law_go_on.nd (q_call h_row_ends (hr.mono (by decide)) (qa_cons (q_var 0) (qa_cons (q_ixK (q_var 2) q_int) qa_nil)))) (qss_one (qs_if (qt_cmp op_ne l_neS (by decide) (by decide) (q_repr (room65 hr) hg N.repr (q_tup (qa_cons (q_call h_place_of (hr.mono (by decide)) (qa_cons (q_var 0) (qa_cons (q_var 1) (qa_cons (q_ixK (q_var 5) q_int) qa_nil)))) (qa_cons (q_call h_place_of (hr.mono (by decide)) (qa_cons (q_var 0) (qa_cons (q_var 1) (qa_cons (q_ixK (q_var 5) q_int) qa_nil)))) (qa_cons (q_call h_row_kind (hr.mono (by decide)) (qa_cons (q_var 0) (qa_cons (q_ixK (q_var 2) q_int) qa_nil))) qa_nil))))) (q_repr (room65 hr) hg N.repr (q_slTK (q_var 2) qo_none (qo_some q_int)))) (qss_one (qs_ret q_bl)) (qss_nil))))) (qss_one (qs_ret q_bl))))), fun ds QD h => ?_⟩)
  · obtain ⟨g, n, rfl, _⟩ := h; rfl
  · obtain ⟨g, n, rfl, ok, h⟩ := h
    have run := ok.run
    have hr6 := run.sfit.rows n (Nat.le_refl _)
    repeat (first | refine ⟨_, rfl, ?_⟩ | refine ⟨_, _, rfl, rfl, ?_⟩ | refine ⟨_, _, _, .inr rfl, rfl, rfl, ?_⟩ | refine ⟨_, _, _, .inl rfl, rfl, rfl, ?_⟩ | refine ⟨_, .inr rfl, ?_⟩ | refine ⟨_, .inl rfl, ?_⟩ | refine ⟨(by intro s z; cases z), ?_⟩ | refine ⟨Nat.le_of_ble_eq_true rfl, ?_⟩ | refine ⟨rfl, ?_⟩ | refine iteT ?_ | refine iteF ?_ | refine ⟨_, _, rfl, ?_⟩ | refine ⟨_, _, _, rfl, ?_⟩)
    refine ⟨run.ok, run.n9, run.fit, ?_⟩
    repeat (first | refine ⟨_, rfl, ?_⟩ | refine ⟨_, _, rfl, rfl, ?_⟩ | refine ⟨_, _, _, .inr rfl, rfl, rfl, ?_⟩ | refine ⟨_, _, _, .inl rfl, rfl, rfl, ?_⟩ | refine ⟨_, .inr rfl, ?_⟩ | refine ⟨_, .inl rfl, ?_⟩ | refine ⟨(by intro s z; cases z), ?_⟩ | refine ⟨Nat.le_of_ble_eq_true rfl, ?_⟩ | refine ⟨rfl, ?_⟩ | refine iteT ?_ | refine iteF ?_ | refine ⟨_, _, rfl, ?_⟩ | refine ⟨_, _, _, rfl, ?_⟩)
    refine ⟨run.ok, run.sfit, run.n9, ?_⟩
    repeat (first | refine ⟨_, rfl, ?_⟩ | refine ⟨_, _, rfl, rfl, ?_⟩ | refine ⟨_, _, _, .inr rfl, rfl, rfl, ?_⟩ | refine ⟨_, _, _, .inl rfl, rfl, rfl, ?_⟩ | refine ⟨_, .inr rfl, ?_⟩ | refine ⟨_, .inl rfl, ?_⟩ | refine ⟨(by intro s z; cases z), ?_⟩ | refine ⟨Nat.le_of_ble_eq_true rfl, ?_⟩ | refine ⟨rfl, ?_⟩ | refine iteT ?_ | refine iteF ?_ | refine ⟨_, _, rfl, ?_⟩ | refine ⟨_, _, _, rfl, ?_⟩)
    refine lc_map (enc := eT4) (f := fun p => eTie p.1) (stR g n).2 [] (by simp; omega) (fun p hp K1 hK1 => ?_) ?_
    · repeat (first | refine ⟨_, rfl, ?_⟩ | refine ⟨_, _, rfl, rfl, ?_⟩ | refine ⟨_, _, _, .inr rfl, rfl, rfl, ?_⟩ | refine ⟨_, _, _, .inl rfl, rfl, rfl, ?_⟩ | refine ⟨_, .inr rfl, ?_⟩ | refine ⟨_, .inl rfl, ?_⟩ | refine ⟨(by intro s z; cases z), ?_⟩ | refine ⟨Nat.le_of_ble_eq_true rfl, ?_⟩ | refine ⟨rfl, ?_⟩ | refine iteT ?_ | refine iteF ?_ | refine ⟨_, _, rfl, ?_⟩ | refine ⟨_, _, _, rfl, ?_⟩)
      exact byEq (Q := K1) hK1 rfl
    have e : (List.map (fun p : Tie × Row => eTie p.1) (stR g n).2) = (W g n).2.map eTie := by
      rw [← ok.ties]
      unfold fsts
      rw [List.map_map]
      rfl
    rw [List.nil_append, e]
    refine ⟨_, .inl rfl, ?_⟩
    refine ⟨_, rfl, ok.sh, ?_⟩
    refine ⟨_, rfl, _, _, _, .inr rfl, rfl, rfl, _, rfl, ok.sh, _, _, rfl, rfl, _, rfl, iteN (by show (!decide (PyData.shown (eTies (W g n).2) = PyData.shown (eTies (W g n).2))) = false; simp) ?_⟩
    obtain ⟨xs, ex, mx, lx⟩ := cut_map eT4 (stR g n).2 none (some 8)
    obtain ⟨ys, ey, my, ly⟩ := cut_map eT4 (stR g n).2 (some (-8)) none
    repeat (first | refine ⟨_, rfl, ?_⟩ | refine ⟨_, _, rfl, rfl, ?_⟩ | refine ⟨_, _, _, .inr rfl, rfl, rfl, ?_⟩ | refine ⟨_, _, _, .inl rfl, rfl, rfl, ?_⟩ | refine ⟨_, .inr rfl, ?_⟩ | refine ⟨_, .inl rfl, ?_⟩ | refine ⟨(by intro s z; cases z), ?_⟩ | refine ⟨Nat.le_of_ble_eq_true rfl, ?_⟩ | refine ⟨rfl, ?_⟩ | refine iteT ?_ | refine iteF ?_ | refine ⟨_, _, rfl, ?_⟩ | refine ⟨_, _, _, rfl, ?_⟩)
    rw [ex, ey]
    refine ⟨by simp; omega, ?_⟩
    repeat (first | refine ⟨_, rfl, ?_⟩ | refine ⟨_, _, rfl, rfl, ?_⟩ | refine ⟨_, _, _, .inr rfl, rfl, rfl, ?_⟩ | refine ⟨_, _, _, .inl rfl, rfl, rfl, ?_⟩ | refine ⟨_, .inr rfl, ?_⟩ | refine ⟨_, .inl rfl, ?_⟩ | refine ⟨(by intro s z; cases z), ?_⟩ | refine ⟨Nat.le_of_ble_eq_true rfl, ?_⟩ | refine ⟨rfl, ?_⟩ | refine iteT ?_ | refine iteF ?_ | refine ⟨_, _, rfl, ?_⟩ | refine ⟨_, _, _, rfl, ?_⟩)
    rw [← List.map_append]
    refine for_ind (enc := eT4) (fun i ρ => ∃ c2 c5, ρ = [.dat (eGar g), .dat (eN n), c2, .dat (eWeb (W g n)), .dat (.list ((stR g n).2.map eT4)), c5]) (xs ++ ys) 0 _ ⟨.un, .un, rfl⟩ (fun i p ρ hi hI K' hK => ?_) (fun ρ hI => ?_)
    · obtain ⟨c2, c5, rfl⟩ := hI
      have hp : p ∈ (stR g n).2 := (List.mem_append.mp (List.mem_of_getElem? hi)).elim (mx p) (my p)
      obtain ⟨ne, hrow, hl, hsh, hk, ⟨a1, a2, a3⟩, b1, b2, b3⟩ := ok.each p hp
      repeat (first | refine ⟨_, rfl, ?_⟩ | refine ⟨_, _, rfl, rfl, ?_⟩ | refine ⟨_, _, _, .inr rfl, rfl, rfl, ?_⟩ | refine ⟨_, _, _, .inl rfl, rfl, rfl, ?_⟩ | refine ⟨_, .inr rfl, ?_⟩ | refine ⟨_, .inl rfl, ?_⟩ | refine ⟨(by intro s z; cases z), ?_⟩ | refine ⟨Nat.le_of_ble_eq_true rfl, ?_⟩ | refine ⟨rfl, ?_⟩ | refine iteT ?_ | refine iteF ?_ | refine ⟨_, _, rfl, ?_⟩ | refine ⟨_, _, _, rfl, ?_⟩)
      refine ⟨run.ok, ne, hrow, hl, ?_⟩
      repeat (first | refine ⟨_, rfl, ?_⟩ | refine ⟨_, _, rfl, rfl, ?_⟩ | refine ⟨_, _, _, .inr rfl, rfl, rfl, ?_⟩ | refine ⟨_, _, _, .inl rfl, rfl, rfl, ?_⟩ | refine ⟨_, .inr rfl, ?_⟩ | refine ⟨_, .inl rfl, ?_⟩ | refine ⟨(by intro s z; cases z), ?_⟩ | refine ⟨Nat.le_of_ble_eq_true rfl, ?_⟩ | refine ⟨rfl, ?_⟩ | refine iteT ?_ | refine iteF ?_ | refine ⟨_, _, rfl, ?_⟩ | refine ⟨_, _, _, rfl, ?_⟩)
      refine ⟨run.ok, run.n9, run.fit, run.sfit, a1, a2, p.1.1, a3.1, a3.2, ?_⟩
      repeat (first | refine ⟨_, rfl, ?_⟩ | refine ⟨_, _, rfl, rfl, ?_⟩ | refine ⟨_, _, _, .inr rfl, rfl, rfl, ?_⟩ | refine ⟨_, _, _, .inl rfl, rfl, rfl, ?_⟩ | refine ⟨_, .inr rfl, ?_⟩ | refine ⟨_, .inl rfl, ?_⟩ | refine ⟨(by intro s z; cases z), ?_⟩ | refine ⟨Nat.le_of_ble_eq_true rfl, ?_⟩ | refine ⟨rfl, ?_⟩ | refine iteT ?_ | refine iteF ?_ | refine ⟨_, _, rfl, ?_⟩ | refine ⟨_, _, _, rfl, ?_⟩)
      refine ⟨run.ok, run.n9, run.fit, run.sfit, b1, b2, p.1.2.1, b3.1, b3.2, ?_⟩
      repeat (first | refine ⟨_, rfl, ?_⟩ | refine ⟨_, _, rfl, rfl, ?_⟩ | refine ⟨_, _, _, .inr rfl, rfl, rfl, ?_⟩ | refine ⟨_, _, _, .inl rfl, rfl, rfl, ?_⟩ | refine ⟨_, .inr rfl, ?_⟩ | refine ⟨_, .inl rfl, ?_⟩ | refine ⟨(by intro s z; cases z), ?_⟩ | refine ⟨Nat.le_of_ble_eq_true rfl, ?_⟩ | refine ⟨rfl, ?_⟩ | refine iteT ?_ | refine iteF ?_ | refine ⟨_, _, rfl, ?_⟩ | refine ⟨_, _, _, rfl, ?_⟩)
      refine ⟨run.ok, ne, hrow, hl, ?_⟩
      rw [hk]
      refine ⟨Nat.le_of_ble_eq_true rfl, ?_⟩
      refine ⟨_, rfl, hsh, ?_⟩
      refine ⟨_, rfl, _, rfl, _, rfl, eTie p.1, rfl, hsh, _, _, rfl, rfl, _, rfl, iteN (by show (!decide (PyData.shown (eTie p.1) = PyData.shown (eTie p.1))) = false; simp) ?_⟩
      exact hK _ ⟨_, _, rfl⟩
    · obtain ⟨c2, c5, rfl⟩ := hI
      exact h
end
end L3
/-! Degrees: the ties at a place, counted by items. -/
namespace L3
open PySem
theorem sumK_add (K : Nat) (f h : Nat → Nat) : sumK K (fun c => f c + h c) = sumK K f + sumK K h := by
  induction K with
  | zero => rfl
  | succ K ih => rw [sumK_succ, sumK_succ, sumK_succ, ih]; omega
theorem sumK_zero (K : Nat) : sumK K (fun _ => 0) = 0 := by
  induction K with
  | zero => rfl
  | succ K ih => rw [sumK_succ, ih]
theorem sumK_congr {K : Nat} {f h : Nat → Nat} (e : ∀ c, c < K → f c = h c) : sumK K f = sumK K h := by
  unfold sumK
  rw [List.map_congr_left fun c hc => e c (List.mem_range.mp hc)]
theorem sumK_ind (K k : Nat) (F : Nat → Nat) (h : k < K) : sumK K (fun c => (if k = c then 1 else 0) * F c) = F k := by
  induction K with
  | zero => omega
  | succ K ih =>
    rw [sumK_succ]
    by_cases e : k = K
    · subst e
      have z : sumK k (fun c => (if k = c then 1 else 0) * F c) = 0 := by
        rw [sumK_congr (h := fun _ => 0) fun c hc => by rw [if_neg (by omega)]; omega, sumK_zero]
      rw [z, if_pos rfl]
      omega
    · rw [ih (by omega), if_neg e]
      omega
theorem sum_kinds {α : Type} {P : α → Bool} {kk : α → Nat} {F : Nat → Nat} {K : Nat} : ∀ {xs : List α}, (∀ x ∈ xs, kk x < K) → (xs.map fun x => if P x = true then F (kk x) else 0).sum = sumK K fun c => (xs.countP fun x => P x && decide (kk x = c)) * F c
  | [], _ => by
    rw [sumK_congr (h := fun _ => 0) fun c _ => by simp, sumK_zero]
    rfl
  | x :: xs, h => by
    rw [List.map_cons, List.sum_cons, sum_kinds fun y hy => h y (List.mem_cons_of_mem _ hy)]
    have e : (if P x = true then F (kk x) else 0) = sumK K fun c => (if P x && decide (kk x = c) then 1 else 0) * F c := by
      by_cases hp : P x = true
      · rw [if_pos hp, ← sumK_ind K (kk x) F (h x List.mem_cons_self)]
        refine sumK_congr fun c _ => ?_
        by_cases hc : kk x = c <;> simp [hp, hc]
      · rw [if_neg hp, sumK_congr (h := fun _ => 0) fun c _ => by simp [hp], sumK_zero]
    rw [e, ← sumK_add]
    refine sumK_congr fun c _ => ?_
    rw [List.countP_cons, ← Nat.add_mul]
    congr 1
    omega
def sideI (s : Bool) (it : Item) : Adr := if s then it.2.1 else it.1
def cI (g : Gar) (n : Nat) (a : Adr) (s : Bool) (d : Nat) : Nat := (items g n).countP fun it => decide (sideI s it = a) && decide (it.2.2.1 = d)
theorem item_ends {g : Gar} : ∀ {n : Nat} {it : Item}, it ∈ items g n → it.1.1.length ≤ n ∧ it.2.1.1.length ≤ n
  | 0, it, h => by
    obtain ⟨q, _, rfl⟩ := List.mem_map.mp h
    exact ⟨Nat.le_refl _, Nat.le_refl _⟩
  | n + 1, it, h => by
    obtain ⟨p, hp, h⟩ := List.mem_flatMap.mp h
    obtain ⟨q, _, rfl⟩ := List.mem_map.mp h
    obtain ⟨h1, h2⟩ := item_ends hp
    have h3 := item_row hp
    have pk : ∀ x, (pickI p x).1.length ≤ n + 1 := fun x => by
      unfold pickI
      split
      · omega
      · split
        · omega
        · show p.2.2.2.length ≤ _
          omega
    exact ⟨pk _, pk _⟩
theorem countP_num {α : Type} (f : α → Bool) (k : Nat) (xs : List α) : (num k xs).countP (fun q => f q.2) = xs.countP f := by
  have h := List.countP_map (p := f) (f := fun q : Nat × α => q.2) (l := num k xs)
  rw [num_snd] at h
  exact h.symm
theorem side_kid (s : Bool) (it : Item) (q : Nat × Tie) : sideI s (kidI it q) = pickI it (sideOf s q.2) := by
  cases s <;> rfl
theorem kids_cnt {b : Book} {it : Item} {s : Bool} {a : Adr} {d : Nat} : (kidsI b it).countP (fun k => decide (sideI s k = a) && decide (k.2.2.1 = d)) = (kd b it.2.2.1).2.countP fun t => decide (pickI it (sideOf s t) = a) && decide (t.2.2 = d) := by
  unfold kidsI
  rw [List.countP_map, ← countP_num (fun t : Tie => decide (pickI it (sideOf s t) = a) && decide (t.2.2 = d)) 0]
  congr 1
  funext q
  show (decide (sideI s (kidI it q) = a) && decide ((kidI it q).2.2.1 = d)) = _
  rw [side_kid]
  rfl
theorem two_cnt {it : Item} {s : Bool} {a : Adr} {d : Nat} (ha : a.1 ≠ it.2.2.2) : ∀ ts : List Tie, (ts.countP fun t => decide (pickI it (sideOf s t) = a) && decide (t.2.2 = d)) = (if decide (it.1 = a) = true then cntE ts s 0 d else 0) + (if decide (it.2.1 = a) = true then cntE ts s 1 d else 0)
  | [] => by
    unfold cntE
    simp
  | t :: ts => by
    rw [List.countP_cons, two_cnt ha ts]
    unfold cntE
    rw [List.countP_cons, List.countP_cons]
    have pk : (pickI it (sideOf s t) = a) ↔ (sideOf s t = 0 ∧ it.1 = a) ∨ (sideOf s t = 1 ∧ it.2.1 = a) := by
      unfold pickI
      by_cases h0 : sideOf s t = 0
      · rw [if_pos h0]
        exact ⟨fun z => .inl ⟨h0, z⟩, fun z => z.elim (·.2) fun z => absurd z.1 (by omega)⟩
      · rw [if_neg h0]
        by_cases h1 : sideOf s t = 1
        · rw [if_pos h1]
          exact ⟨fun z => .inr ⟨h1, z⟩, fun z => z.elim (fun z => absurd z.1 h0) (·.2)⟩
        · rw [if_neg h1]
          exact ⟨fun z => absurd (by rw [← z]) ha, fun z => z.elim (fun z => absurd z.1 h0) fun z => absurd z.1 h1⟩
    have pk' : decide (pickI it (sideOf s t) = a) = (decide (sideOf s t = 0) && decide (it.1 = a) || decide (sideOf s t = 1) && decide (it.2.1 = a)) := by
      rw [Bool.eq_iff_iff]
      simp only [Bool.or_eq_true, Bool.and_eq_true, decide_eq_true_eq]
      exact pk
    rw [pk']
    clear pk' pk ha
    generalize sideOf s t = x
    by_cases hd : t.2.2 = d <;> by_cases h0 : x = 0 <;> by_cases h1 : x = 1 <;> by_cases e0 : it.1 = a <;> by_cases e1 : it.2.1 = a <;> simp [hd, h0, h1, e0, e1] <;> omega
theorem cI_step {g : Gar} (ok : GarOk g) {n : Nat} {a : Adr} (ha : a.1.length ≤ n) (s : Bool) (d : Nat) : cI g (n + 1) a s d = dstep g.2 (cI g n a) s d := by
  unfold cI
  show ((items g n).flatMap (kidsI g.2)).countP _ = _
  rw [List.countP_flatMap]
  have e : (items g n).map (List.countP (fun it => decide (sideI s it = a) && decide (it.2.2.1 = d)) ∘ kidsI g.2) = (items g n).map fun it => (if decide (it.1 = a) = true then tabE g.2 it.2.2.1 false s d else 0) + (if decide (it.2.1 = a) = true then tabE g.2 it.2.2.1 true s d else 0) := by
    refine List.map_congr_left fun it hit => ?_
    show (kidsI g.2 it).countP _ = _
    rw [kids_cnt, two_cnt fun z => by
      have := item_row hit
      rw [← z] at this
      omega]
    rfl
  rw [e]
  have sp : ∀ (xs : List Item) (f h : Item → Nat), (xs.map fun x => f x + h x).sum = (xs.map f).sum + (xs.map h).sum := fun xs f h => by
    induction xs with
    | nil => rfl
    | cons x xs ih =>
      rw [List.map_cons, List.map_cons, List.map_cons, List.sum_cons, List.sum_cons, List.sum_cons, ih]
      omega
  rw [sp]
  have hk : ∀ it ∈ items g n, it.2.2.1 < g.2.length := fun it hit => (item_in ok n it hit).2.2.1
  rw [sum_kinds (P := fun it : Item => decide (it.1 = a)) (kk := fun it => it.2.2.1) (F := fun c => tabE g.2 c false s d) hk, sum_kinds (P := fun it : Item => decide (it.2.1 = a)) (kk := fun it => it.2.2.1) (F := fun c => tabE g.2 c true s d) hk]
  rfl
theorem sum_one {α β : Type} {r : α → β} [DecidableEq β] {F : α → Nat} {x0 : α} : ∀ {xs : List α}, (xs.map r).Nodup → x0 ∈ xs → (xs.map fun x => if r x = r x0 then F x else 0).sum = F x0
  | x :: xs, nd, h => by
    rw [List.map_cons, List.nodup_cons] at nd
    rw [List.map_cons, List.sum_cons]
    by_cases e : r x = r x0
    · have hx : x0 = x := by
        rcases List.mem_cons.mp h with h | h
        · exact h
        · exact absurd (by rw [e]; exact List.mem_map_of_mem h) nd.1
      subst hx
      rw [if_pos rfl]
      have z : (xs.map fun x => if r x = r x0 then F x else 0) = xs.map fun _ => 0 := List.map_congr_left fun y hy => if_neg fun z => nd.1 (by rw [← z]; exact List.mem_map_of_mem hy)
      rw [z]
      have : ∀ ys : List α, (ys.map fun _ => 0).sum = 0 := fun ys => by
        induction ys with
        | nil => rfl
        | cons y ys ih => rw [List.map_cons, List.sum_cons, ih]
      rw [this]
      omega
    · rw [if_neg e, Nat.zero_add]
      refine sum_one nd.2 ((List.mem_cons.mp h).resolve_left fun z => e (by rw [z]))
theorem allA_mem {g : Gar} (ok : GarOk g) {n : Nat} {a : Adr} : a ∈ allA g n ↔ (a.1 = [] ∧ a.2 < g.1.1) ∨ a ∈ adN g n := by
  obtain ⟨R, e, p⟩ := allA_pre ok n
  rw [e, List.mem_append, p.mem_iff]
  refine or_congr ⟨fun h => ?_, fun h => ?_⟩ Iff.rfl
  · obtain ⟨j, hj, rfl⟩ := List.mem_map.mp h
    exact ⟨rfl, List.mem_range.mp hj⟩
  · exact List.mem_map.mpr ⟨a.2, List.mem_range.mpr h.2, Prod.ext h.1.symm rfl⟩
theorem cI_birth {g : Gar} (ok : GarOk g) {n : Nat} {a : Adr} (h : a ∈ allA g n) (ha : a.1.length = n) (s : Bool) (d : Nat) : cI g n a s d = cntE (around g a.1).2 s a.2 d := by
  cases n with
  | zero =>
    have e0 : a.1 = [] := List.eq_nil_of_length_eq_zero ha
    unfold around cI cntE
    rw [if_pos e0]
    show ((num 0 g.1.2).map _).countP _ = _
    rw [List.countP_map, ← countP_num (fun t : Tie => decide (sideOf s t = a.2) && decide (t.2.2 = d)) 0]
    congr 1
    funext q
    have e : (sideI s (([], q.2.1), ([], q.2.2.1), q.2.2.2, [q.1]) = a) ↔ sideOf s q.2 = a.2 := by
      cases s
      · exact ⟨fun z => by rw [← z]; rfl, fun z => Prod.ext e0.symm z⟩
      · exact ⟨fun z => by rw [← z]; rfl, fun z => Prod.ext e0.symm z⟩
    show (decide (sideI s (([], q.2.1), ([], q.2.2.1), q.2.2.2, [q.1]) = a) && decide (q.2.2.2 = d)) = _
    rw [decide_eq_decide.mpr e]
  | succ n =>
    rcases (allA_mem ok).mp h with h | h
    · rw [h.1] at ha
      cases ha
    · rcases List.mem_append.mp h with h | h
      · have := (adN_row h).2.1
        omega
      · obtain ⟨it0, hi0, h⟩ := List.mem_flatMap.mp h
        obtain ⟨j, hj, rfl⟩ := List.mem_map.mp h
        obtain ⟨_, k2, _, _⟩ := item_in ok n it0 hi0
        have hl0 := item_row hi0
        have ne : it0.2.2.2 ≠ [] := fun z => by rw [z] at hl0; simp at hl0
        unfold around cI
        rw [if_neg (show ¬ it0.2.2.2 = [] from ne)]
        show ((items g n).flatMap (kidsI g.2)).countP _ = cntE (kd g.2 (kindOf g it0.2.2.2)).2 s (2 + j) d
        rw [k2, List.countP_flatMap]
        have e : (items g n).map (List.countP (fun it => decide (sideI s it = (it0.2.2.2, 2 + j)) && decide (it.2.2.1 = d)) ∘ kidsI g.2) = (items g n).map fun it => if it.2.2.2 = it0.2.2.2 then cntE (kd g.2 it.2.2.1).2 s (2 + j) d else 0 := by
          refine List.map_congr_left fun it hit => ?_
          show (kidsI g.2 it).countP _ = _
          rw [kids_cnt]
          obtain ⟨z1, z2⟩ := item_ends hit
          have pk : ∀ x, pickI it x = (it0.2.2.2, 2 + j) ↔ it.2.2.2 = it0.2.2.2 ∧ x = 2 + j := fun x => by
            unfold pickI
            by_cases h0 : x = 0
            · rw [if_pos h0]
              refine ⟨fun z => ?_, fun z => by omega⟩
              rw [z] at z1
              have : it0.2.2.2.length ≤ n := z1
              omega
            · rw [if_neg h0]
              by_cases h1 : x = 1
              · rw [if_pos h1]
                refine ⟨fun z => ?_, fun z => by omega⟩
                rw [z] at z2
                have : it0.2.2.2.length ≤ n := z2
                omega
              · rw [if_neg h1]
                exact ⟨fun z => ⟨(Prod.mk.inj z).1, (Prod.mk.inj z).2⟩, fun z => by rw [z.1, z.2]⟩
          by_cases er : it.2.2.2 = it0.2.2.2
          · rw [if_pos er]
            unfold cntE
            congr 1
            funext t
            rw [decide_eq_decide.mpr ((pk (sideOf s t)).trans ⟨fun z => z.2, fun z => ⟨er, z⟩⟩)]
          · rw [if_neg er, List.countP_eq_zero]
            intro t _ z
            simp only [Bool.and_eq_true, decide_eq_true_eq] at z
            exact er ((pk _).mp z.1).1
        rw [e]
        exact sum_one (r := fun it : Item => it.2.2.2) (F := fun it => cntE (kd g.2 it.2.2.1).2 s (2 + j) d) (rows_nodup g n) hi0
theorem allA_less {g : Gar} (ok : GarOk g) {n : Nat} {a : Adr} (h : a ∈ allA g (n + 1)) (ha : a.1.length ≤ n) : a ∈ allA g n := by
  rcases (allA_mem ok).mp h with h | h
  · exact (allA_mem ok).mpr (.inl h)
  · rcases List.mem_append.mp h with h | h
    · exact (allA_mem ok).mpr (.inr h)
    · obtain ⟨it0, hi0, h⟩ := List.mem_flatMap.mp h
      obtain ⟨j, hj, rfl⟩ := List.mem_map.mp h
      have hl0 := item_row hi0
      have : it0.2.2.2.length ≤ n := ha
      omega
theorem deg_cI {g : Gar} (ok : GarOk g) {a : Adr} : ∀ (m n : Nat), n = a.1.length + m → a ∈ allA g n → degF g a m = cI g n a
  | 0, n, e, h => by
    funext s d
    rw [cI_birth ok h (by omega)]
    rfl
  | m + 1, n, e, h => by
    obtain ⟨k, rfl⟩ : ∃ k, n = k + 1 := ⟨a.1.length + m, by omega⟩
    funext s d
    have hk : a.1.length ≤ k := by omega
    rw [cI_step ok hk, ← deg_cI ok m k (by omega) (allA_less ok h hk)]
    rfl
theorem cI_W {g : Gar} (ok : GarOk g) {n p : Nat} {a : Adr} (h : (allA g n)[p]? = some a) (s : Bool) (d : Nat) : cI g n a s d = cntE (W g n).2 s p d := by
  have nd := allA_nodup ok n
  unfold cI cntE
  rw [← ((stR_items ok n).1).countP_eq, ← (stR_W g n).2]
  unfold fsts
  rw [List.countP_map, List.countP_map]
  refine List.countP_congr fun r hr => ?_
  obtain ⟨x, y, h1, h2, _⟩ := row_item ok hr
  have e : (sideI s (toItem (allA g n) r) = a) ↔ sideOf s r.1 = p := by
    have tell : ∀ (i : Nat) (z : Adr), (allA g n)[i]? = some z → ((allA g n).getD i adI = a ↔ i = p) := fun i z hz => by
      rw [List.getD_eq_getElem?_getD, hz]
      constructor
      · intro q
        have q' : z = a := q
        subst q'
        rw [← ixA_get nd hz, ixA_get nd h]
      · intro q
        subst q
        rw [h] at hz
        exact (Option.some.inj hz).symm
    cases s
    · exact tell _ _ h1
    · exact tell _ _ h2
  show (decide (sideI s (toItem (allA g n) r) = a) && decide (r.1.2.2 = d)) = true ↔ (decide (sideOf s r.1 = p) && decide (r.1.2.2 = d)) = true
  rw [decide_eq_decide.mpr e]
theorem deg_W {g : Gar} (ok : GarOk g) {n p : Nat} {a : Adr} (hn : n ≤ 900) (h : (allA g n)[p]? = some a) (s : Bool) (d : Nat) : degF g a (n - a.1.length) s d = cntE (W g n).2 s p d := by
  have hm := List.mem_of_getElem? h
  have hl := (allA_ok ok hn hm).2
  rw [deg_cI ok (n - a.1.length) n (by omega) hm, cI_W ok h]
end L3
/-! The limits, the webs of single ties, and what repr may show. -/
namespace L3
open PySem
/-! ### how many -/
theorem W_below {g : Gar} (ok : GarOk g) (n : Nat) : Below (W g n) g.2.length := fun t ht => by
  rw [← (stR_W g n).2] at ht
  obtain ⟨p, hp, rfl⟩ := List.mem_map.mp ht
  exact (stR_row ok n p hp).1
theorem sum_kindsT {ts : List Tie} {F : Nat → Nat} {K : Nat} (h : ∀ t ∈ ts, t.2.2 < K) : (ts.map fun t => F t.2.2).sum = sumK K fun c => manyF ts c * F c := by
  have q := sum_kinds (P := fun _ : Tie => true) (kk := fun t => t.2.2) (F := F) h
  have e : (ts.map fun x => if (fun _ : Tie => true) x = true then F x.2.2 else 0) = ts.map fun t => F t.2.2 := List.map_congr_left fun t _ => if_pos rfl
  rw [e] at q
  rw [q]
  refine sumK_congr fun c _ => ?_
  congr 1
theorem manyF_sum {ts : List Tie} {K : Nat} (h : ∀ t ∈ ts, t.2.2 < K) : sumK K (manyF ts) = ts.length := by
  have q := sum_kindsT (F := fun _ => 1) h
  have e : ∀ ts : List Tie, (ts.map fun _ => 1).sum = ts.length := fun ts => by
    induction ts with
    | nil => rfl
    | cons t ts ih => rw [List.map_cons, List.sum_cons, ih, List.length_cons]; omega
  rw [e] at q
  rw [q]
  exact sumK_congr fun c _ => by omega
theorem found_cnt (b : Book) (d : Nat) : ∀ (base : Nat) (ps : List (Tie × Row)), manyF (fsts (foundR b base ps)) d = (ps.map fun p => manyF (kd b p.1.2.2).2 d).sum
  | _, [] => rfl
  | base, p :: ps => by
    have a : ∀ xs ys : List (Tie × Row), fsts (xs ++ ys) = fsts xs ++ fsts ys := fun xs ys => List.map_append
    rw [foundR, a]
    unfold manyF
    rw [List.countP_append]
    have ih := found_cnt b d (base + inn b p.1.2.2) ps
    unfold manyF at ih
    rw [ih, List.map_cons, List.sum_cons]
    congr 1
    unfold fsts kids
    rw [List.map_map, List.countP_map, ← countP_num (fun t : Tie => decide (t.2.2 = d)) 0]
    rfl
theorem mst_W {g : Gar} (ok : GarOk g) : ∀ n, (mst g n).1 = (W g n).1 ∧ ∀ d, (mst g n).2 d = manyF (W g n).2 d
  | 0 => ⟨rfl, fun _ => rfl⟩
  | n + 1 => by
    obtain ⟨h1, h2⟩ := mst_W ok n
    have bl := W_below ok n
    constructor
    · show (mst g n).1 + sumK g.2.length (fun c => (mst g n).2 c * inn g.2 c) = (round g.2 (W g n)).1
      rw [round_places, sum_kindsT (F := inn g.2) bl, h1]
      congr 1
      exact sumK_congr fun c _ => by rw [h2]
    · intro d
      show sumK g.2.length (fun c => (mst g n).2 c * manyF (kd g.2 c).2 d) = manyF (round g.2 (W g n)).2 d
      have e : manyF (round g.2 (W g n)).2 d = manyF (fsts (foundR g.2 (W g n).1 (bare (W g n).2))) d := ((sortE_perm (e := ePair) (foundR g.2 (W g n).1 (bare (W g n).2))).map _).countP_eq _
      rw [e, found_cnt]
      unfold bare
      rw [List.map_map]
      have q := sum_kindsT (F := fun c => manyF (kd g.2 c).2 d) bl
      have e2 : ((W g n).2.map ((fun p : Tie × Row => manyF (kd g.2 p.1.2.2).2 d) ∘ fun t => (t, []))) = (W g n).2.map fun t => manyF (kd g.2 t.2.2).2 d := rfl
      rw [e2, q]
      exact sumK_congr fun c _ => by rw [h2]
theorem fits_none {g : Gar} (ok : GarOk g) {n : Nat} (h : ∀ i, i < n → (mst g (i + 1)).1 ≤ 400 ∧ sumK g.2.length (mst g (i + 1)).2 ≤ 600) : Fits g n := by
  have all : ∀ i, i ≤ n → (W g i).1 ≤ 400 ∧ (W g i).2.length ≤ 600 := fun i hi => by
    cases i with
    | zero => exact ⟨ok.start.small, ok.start.few⟩
    | succ i =>
      obtain ⟨h1, h2⟩ := h i hi
      obtain ⟨m1, m2⟩ := mst_W ok (i + 1)
      rw [m1] at h1
      have e : sumK g.2.length (mst g (i + 1)).2 = (W g (i + 1)).2.length := by
        rw [← manyF_sum (W_below ok (i + 1))]
        exact sumK_congr fun c _ => m2 c
      rw [e] at h2
      exact ⟨h1, h2⟩
  exact ⟨fun i hi => (all i hi).1, fun i hi => (all i hi).2⟩
theorem run_of {g : Gar} (ok : GarOk g) {n : Nat} (hn : n ≤ 900) (f : Fits g n) : Run g n := ⟨ok, hn, f, stFit_of f⟩
theorem run_webOk {g : Gar} {n : Nat} (r : Run g n) : WebOk (W g n) := (W_ok r.ok.start r.ok.book r.ok.below r.fit n (Nat.le_refl _)).1
/-! ### one tie, after a round, is its growth -/
theorem round_single {b : Book} (bk : BookOk b) {c : Nat} (h : c < b.length) : round b (2, [(0, 1, c)]) = kd b c := by
  obtain ⟨wk, h2, _⟩ := bk.webs _ (kd_mem h)
  refine Prod.ext ?_ ?_
  · rw [round_places]
    exact Nat.add_sub_of_le h2
  · show fsts (sortE ePair (foundR b 2 [((0, 1, c), [])])) = _
    rw [fsts_sortE]
    have e : fsts (foundR b 2 [((0, 1, c), [])]) = (kd b c).2 := by
      have e1 : foundR b 2 [((0, 1, c), [])] = kids b 2 ((0, 1, c), []) := List.append_nil _
      rw [e1]
      unfold fsts kids
      rw [List.map_map]
      have nmx : ∀ x, nm (0, 1, c) 2 x = x := fun x => by
        unfold nm
        by_cases h0 : x = 0
        · rw [if_pos h0, h0]
        · rw [if_neg h0]
          by_cases h1 : x = 1
          · rw [if_pos h1, h1]
          · rw [if_neg h1]
            omega
      have e2 : (num 0 (kd b c).2).map ((fun p : Tie × Row => p.1) ∘ kidOf ((0, 1, c), []) 2) = (num 0 (kd b c).2).map (·.2) := by
        refine List.map_congr_left fun q _ => ?_
        show (nm (0, 1, c) 2 q.2.1, nm (0, 1, c) 2 q.2.2.1, q.2.2.2) = q.2
        rw [nmx, nmx]
      show (num 0 (kd b c).2).map _ = _
      rw [e2, num_snd]
    rw [e]
    exact sortE_of wk.srt
theorem W_single {b : Book} (bk : BookOk b) {c : Nat} (h : c < b.length) : ∀ m, W (single b c) (m + 1) = W (kd b c, b) m
  | 0 => round_single bk h
  | m + 1 => by
    show round b (W (single b c) (m + 1)) = round b (W (kd b c, b) m)
    rw [W_single bk h m]
def powB (b : Book) (n : Nat) : Book := b.map fun w => W (w, b) (n - 1)
theorem kd_pow {b : Book} {n c : Nat} (bk : BookOk b) (h : c < b.length) (hn : 1 ≤ n) : kd (powB b n) c = W (single b c) n := by
  obtain ⟨m, rfl⟩ : ∃ m, n = m + 1 := ⟨n - 1, by omega⟩
  rw [W_single bk h m]
  unfold powB kd
  rw [List.getD_eq_getElem?_getD, List.getElem?_map, List.getElem?_eq_getElem h]
  have e : b.getD c (2, []) = b[c] := by rw [List.getD_eq_getElem?_getD, List.getElem?_eq_getElem h]; rfl
  rw [e]
  rfl
theorem pow_fits {b : Book} {n : Nat} (bk : BookOk b) (hn : 1 ≤ n) (h : ∀ c, c < b.length → Fits (single b c) n) : ∀ w ∈ b, Fits (w, b) (n - 1) := fun w hw => by
  obtain ⟨c, hc, rfl⟩ := List.getElem_of_mem hw
  have e : kd b c = b[c] := by unfold kd; rw [List.getD_eq_getElem?_getD, List.getElem?_eq_getElem hc]; rfl
  have f := h c hc
  rw [← e]
  exact ⟨fun i hi => by rw [← W_single bk hc i]; exact f.places (i + 1) (by omega), fun i hi => by rw [← W_single bk hc i]; exact f.ties (i + 1) (by omega)⟩
theorem pow_ok {g : Gar} {n : Nat} (ok : GarOk g) (hn : 1 ≤ n) : PowOk g (powB g.2 n) n := fun t ht => ⟨by unfold powB; rw [List.length_map]; exact ok.below t ht, kd_pow ok.book (ok.below t ht) hn⟩
theorem fits_one {b : Book} (bk : BookOk b) {c : Nat} (h : c < b.length) : Fits (single b c) 1 := by
  obtain ⟨wk, _, _⟩ := bk.webs _ (kd_mem h)
  have all : ∀ i, i ≤ 1 → (W (single b c) i).1 ≤ 400 ∧ (W (single b c) i).2.length ≤ 600 := fun i hi => by
    cases i with
    | zero => exact ⟨by show 2 ≤ 400; decide, by show 1 ≤ 600; decide⟩
    | succ i =>
      obtain rfl : i = 0 := by omega
      rw [W_single bk h 0]
      exact ⟨wk.small, wk.few⟩
  exact ⟨fun i hi => (all i hi).1, fun i hi => (all i hi).2⟩
/-! ### what repr may show -/
structure Sm (k m : Nat) (d : PyData) : Prop where
  sh : d.showable = true
  nd : d.hasDict = false
  dep : d.depth ≤ k
  ls : d.leavesShort 13 = true
  w : d.weight ≤ m
theorem sm_n {n : Nat} (h : n < 1000) : Sm 0 10 (eN n) := by
  have hl : n.log2 ≤ 9 := by
    by_cases z : n = 0
    · subst z; decide
    · have := (Nat.log2_lt z).mpr (show n < 2 ^ 10 by omega)
      omega
  refine ⟨?_, rfl, Nat.le_of_eq (dep_n n), ?_, ?_⟩
  · show decide ((n : Int).natAbs.log2 < 1920) = true
    rw [Int.natAbs_natCast, decide_eq_true_eq]
    omega
  · show decide ((PyData.shown (.int (n : Int))).length ≤ 13) = true
    rw [decide_eq_true_eq]
    have := int_text_length_le (a := (n : Int)) (k := 10) (by decide) (by rw [Int.natAbs_natCast]; omega)
    show (Str.ofString (toString (n : Int))).length ≤ 13
    rw [ofString_length]
    omega
  · show (if (n : Int) == 0 then 0 else (n : Int).natAbs.log2 + 1) ≤ 10
    rw [Int.natAbs_natCast]
    split <;> omega
theorem sm_all {α : Type} {e : α → PyData} {k m : Nat} : ∀ {xs : List α}, (∀ x ∈ xs, Sm k m (e x)) → PyData.showableAll (xs.map e) = true ∧ PyData.hasDictAll (xs.map e) = false ∧ PyData.depthAll (xs.map e) ≤ k ∧ PyData.leavesShortAll 13 (xs.map e) = true ∧ PyData.weightAll (xs.map e) ≤ (m + 1) * xs.length
  | [], _ => by simp [PyData.showableAll, PyData.hasDictAll, PyData.depthAll, PyData.leavesShortAll, PyData.weightAll]
  | x :: xs, h => by
    obtain ⟨h1, h2, h3, h4, h5⟩ := sm_all fun y hy => h y (List.mem_cons_of_mem _ hy)
    obtain ⟨k1, k2, k3, k4, k5⟩ := h x List.mem_cons_self
    rw [List.map_cons, PyData.showableAll, PyData.hasDictAll, PyData.depthAll, PyData.leavesShortAll, PyData.weightAll, List.length_cons, h1, h2, h4, k1, k2, k4]
    refine ⟨rfl, rfl, Nat.max_le.mpr ⟨k3, h3⟩, rfl, ?_⟩
    rw [Nat.mul_add]
    omega
theorem sm_tup {k m : Nat} {ds : List PyData} (h : ∀ x ∈ ds, Sm k m x) : Sm (k + 1) ((m + 1) * ds.length) (.tuple ds) := by
  obtain ⟨h1, h2, h3, h4, h5⟩ := sm_all (e := id) h
  rw [List.map_id] at h1 h2 h3 h4 h5
  refine ⟨by rw [PyData.showable]; exact h1, by rw [PyData.hasDict]; exact h2, by rw [PyData.depth]; omega, by rw [PyData.leavesShort]; exact h4, by rw [PyData.weight]; exact h5⟩
theorem Sm.more {k k' m m' : Nat} {d : PyData} (h : Sm k m d) (h1 : k ≤ k') (h2 : m ≤ m') : Sm k' m' d := ⟨h.sh, h.nd, Nat.le_trans h.dep h1, h.ls, Nat.le_trans h.w h2⟩
theorem show_tup {k m : Nat} {ds : List PyData} (h : Sm k m (.tuple ds)) (hk : k ≤ 20) (hm : m ≤ 1000000) : ShowOk (.tuple ds) := ⟨h.sh, h.nd, Nat.le_trans h.dep hk, PyData.shown_fits (by decide) (by decide) h.ls (Nat.le_trans h.w (Nat.le_trans hm (by decide))), _, rfl⟩
theorem sm_tie {t : Tie} (h1 : t.1 < 1000) (h2 : t.2.1 < 1000) (h3 : t.2.2 < 1000) : Sm 1 33 (eTie t) := by
  have q := sm_tup (k := 0) (m := 10) (ds := [eN t.1, eN t.2.1, eN t.2.2]) fun x hx => by
    rcases List.mem_cons.mp hx with e | hx
    · rw [e]; exact sm_n h1
    · rcases List.mem_cons.mp hx with e | hx
      · rw [e]; exact sm_n h2
      · rw [List.mem_singleton.mp hx]; exact sm_n h3
  exact q
theorem tie_small {n : Nat} {t : Tie} (h : TieOk n t) (hn : n ≤ 400) : Sm 1 33 (eTie t) := sm_tie (by have := h.a; omega) (by have := h.b; omega) (by have := h.c; omega)
theorem sm_ties {w : Web} (h : WebOk w) : Sm 2 20400 (eTies w.2) := by
  have q := sm_tup (k := 1) (m := 33) (ds := w.2.map eTie) fun x hx => by
    obtain ⟨t, ht, rfl⟩ := List.mem_map.mp hx
    exact tie_small (h.ties t ht) h.small
  have := h.few
  exact q.more (Nat.le_refl _) (by rw [List.length_map]; omega)
theorem sm_web {w : Web} (h : WebOk w) : Sm 3 40802 (eWeb w) := by
  have q := sm_tup (k := 2) (m := 20400) (ds := [eN w.1, eTies w.2]) fun x hx => by
    rcases List.mem_cons.mp hx with e | hx
    · rw [e]; exact (sm_n (by have := h.small; omega)).more (by decide) (by decide)
    · rw [List.mem_singleton.mp hx]; exact sm_ties h
  exact q
theorem show_web {w : Web} (h : WebOk w) : ShowOk (eWeb w) := show_tup (sm_web h) (by decide) (by decide)
theorem show_ties {w : Web} (h : WebOk w) : ShowOk (eTies w.2) := show_tup (sm_ties h) (by decide) (by decide)
theorem show_tie {n : Nat} {t : Tie} (h : TieOk n t) (hn : n ≤ 400) : ShowOk (eTie t) := show_tup (tie_small h hn) (by decide) (by decide)
end L3
/-! What the law's defs ask, of a garden whose rounds pass no limit. -/
namespace L3
open PySem
theorem goOk_of {g : Gar} {n : Nat} (run : Run g n) : GoOk g n := by
  have ok := run.ok
  have wk := run_webOk run
  have n9 := run.n9
  refine ⟨run, (stR_W g n).2, show_ties wk, fun p hp => ?_⟩
  obtain ⟨a, e, h1, h2, hi⟩ := row_item ok hp
  obtain ⟨k1, k2, k3, k4⟩ := item_in ok n _ hi
  have hl : p.2.length = n + 1 := item_row hi
  have nd := allA_nodup ok n
  have hm : p.1 ∈ (W g n).2 := by
    rw [← (stR_W g n).2]
    exact List.mem_map_of_mem hp
  have o1 := allA_ok ok n9 (List.mem_of_getElem? h1)
  have o2 := allA_ok ok n9 (List.mem_of_getElem? h2)
  have k4' : endsI g p.2 n = (a, e, p.1.2.2) := k4
  have el : p.2.length - 1 = n := by omega
  rw [el, k4']
  exact ⟨fun z => by rw [z] at hl; simp at hl, k1, by omega, show_tie (wk.ties _ hm) wk.small, k2, ⟨o1.1, o1.2, firstAt_of nd h1⟩, o2.1, o2.2, firstAt_of nd h2⟩
theorem sm_lst {k : Nat} {f : Nat → Nat} (hk : k ≤ 3) (h : ∀ d, d < k → f d < 1000) : Sm 1 33 (.tuple (lstF k f)) := by
  have q := sm_tup (k := 0) (m := 10) (ds := lstF k f) fun x hx => by
    obtain ⟨d, hd, rfl⟩ := List.mem_map.mp hx
    exact sm_n (h d (List.mem_range.mp hd))
  refine q.more (Nat.le_refl _) ?_
  unfold lstF
  rw [List.length_map, List.length_range]
  omega
theorem show_due {b : Book} {v : Web} (hk : b.length ≤ 3) (hv : v.2.length ≤ 600) (p : Nat) : ShowOk (dueD b v p) := by
  have hc : ∀ s d, cntE v.2 s p d < 1000 := fun s d => by
    have : cntE v.2 s p d ≤ v.2.length := List.countP_le_length
    omega
  have q := sm_tup (k := 1) (m := 33) (ds := [.tuple (lstF b.length (cntE v.2 false p)), .tuple (lstF b.length (cntE v.2 true p))]) fun x hx => by
    rcases List.mem_cons.mp hx with e | hx
    · rw [e]; exact sm_lst hk fun d _ => hc _ _
    · rw [List.mem_singleton.mp hx]; exact sm_lst hk fun d _ => hc _ _
  exact show_tup q (by decide) (by show (33 + 1) * 2 ≤ 1000000; decide)
theorem degOk_of {b : Book} {n : Nat} (bk : BookOk b) (hn : 1 ≤ n) (hr : ∀ c, c < b.length → Run (single b c) n) : DegOk b (powB b n) n := by
  have each : ∀ q ∈ num 0 (powB b n), q.1 < b.length ∧ W (single b q.1) n = q.2 := fun q hq => by
    have e := num_at hq
    have hc : q.1 < b.length := by
      have := (List.getElem?_eq_some_iff.mp e).1
      unfold powB at this
      rw [List.length_map] at this
      exact this
    refine ⟨hc, ?_⟩
    have h2 := kd_get (b := powB b n) (c := q.1) (by unfold powB; rw [List.length_map]; exact hc)
    rw [e, kd_pow bk hc hn] at h2
    exact (Option.some.inj h2).symm
  refine ⟨by unfold powB; rw [List.length_map]; exact bk.few, bk.few, fun q hq => ?_, fun q hq p hp => ?_⟩
  · obtain ⟨hc, e⟩ := each q hq
    refine ⟨hr _ hc, e, ?_⟩
    rw [← e]
    exact show_web (run_webOk (hr _ hc))
  · obtain ⟨hc, e⟩ := each q hq
    have run := hr _ hc
    have wk := run_webOk run
    have hl : p < (allA (single b q.1) n).length := by rw [allA_W, e]; exact hp
    have h1 := List.getElem?_eq_getElem hl
    have o := allA_ok run.ok run.n9 (List.mem_of_getElem? h1)
    refine ⟨_, firstAt_of (allA_nodup run.ok n) h1, o.1, o.2, fun s d hd => ?_, show_due bk.few ?_ p⟩
    · rw [deg_W run.ok run.n9 h1, e]
    · rw [← e]; exact wk.few
/-! ### the law, plainly -/
/-- all singles pass no limit -/
def Sing (b : Book) (n : Nat) : Prop := ∀ c, c < b.length → Fits (single b c) n
theorem Sing.run {b : Book} {n : Nat} (bk : BookOk b) (hn : n ≤ 900) (h : Sing b n) : ∀ c, c < b.length → Run (single b c) n := fun c hc => run_of (single_ok bk hc) hn (h c hc)
theorem ledF_made {g : Gar} {n : Nat} (run : Run g n) (hn : 1 ≤ n) (hs : Sing g.2 n) : ledF (lround (powB g.2 n) g.1) (renF g n (ixG g n)) = W g n :=
  led_made run.ok (pow_ok run.ok hn) (fun c hc => run_webOk (hs.run run.ok.book run.n9 c hc)) (run_webOk run)
theorem made_places {g : Gar} {n : Nat} (run : Run g n) (hn : 1 ≤ n) (hs : Sing g.2 n) : (lround (powB g.2 n) g.1).1 = (W g n).1 := by
  have h : (ledF (lround (powB g.2 n) g.1) (renF g n (ixG g n))).1 = (W g n).1 := by rw [ledF_made run hn hs]
  exact h
theorem pow_one (b : Book) : powB b 1 = b := by
  unfold powB
  show b.map (fun w => w) = b
  rw [List.map_id']
end L3
namespace L3
open PySem L2
open PySem.Spec
theorem all_map {α : Type} {e : α → PyData} {p : α → Prop} : ∀ (ys : List PyData), (∀ y ∈ ys, ∃ t, y = e t ∧ p t) → ∃ ts : List α, ys = ts.map e ∧ ∀ t ∈ ts, p t
  | [], _ => ⟨[], rfl, fun t h => nomatch h⟩
  | y :: ys, h => by
    obtain ⟨t, rfl, ht⟩ := h y List.mem_cons_self
    obtain ⟨ts, rfl, hts⟩ := all_map ys fun z hz => h z (List.mem_cons_of_mem _ hz)
    exact ⟨t :: ts, rfl, fun s hs => (List.mem_cons.mp hs).elim (fun e => by rw [e]; exact ht) (hts s)⟩
section
variable {P : Program} {w : World} {K : PySem.W.Frag} {mg : Str → Option Value} {base : Heap} {T : List (Addr × Str)}
def phi__law_draw : Phi := fun ds Q => ∃ m : Nat, ds = [eN m] ∧ 1 ≤ m ∧ m < 1073741824 ∧ ∀ v, v < m → Q (eN v)
def phi__law_pick : Phi := fun ds Q => ∃ xs : List Nat, ds = [.list (xs.map eN)] ∧ 1 ≤ xs.length ∧ xs.length < 1000 ∧ ∀ x ∈ xs, Q (eN x)
abbrev s__law_pick : Stmt := topS 57
theorem sc__law_pick : FnScope ["_law_deck_here", "_law_some"] ["_law_deck_here", "_law_some"] (defScope s__law_pick) := ⟨rfl, rfl, rfl, by decide +kernel, rfl, by decide +kernel, by decide +kernel⟩
theorem ok__law_pick {f : Addr} {fd : FuncData} (F : Fun K "_law_pick" "_law_pick" s__law_pick f fd) (N : Nms mg) (h__law_draw : Has P w K mg base "_law_draw" 1 ["_law_deck_here", "_law_many_here"] (spD T phi__law_draw)) : FnOk P w K mg base CX0 2 f fd ["_law_deck_here", "_law_some"] (spD T phi__law_pick) := by
  refine fnD F sc__law_pick (fun ds QD h => ?_) (fun dk cdv A outer s H E hr => ⟨_, _, (by exact qss_one (qs_ret (q_ixK (q_var 1) (q_callD (i := 0) h__law_draw (hr.mono (by decide)) (qa_cons (q_cb call_lenK l_len rfl N.len PySem.boot_len (qa_cons (q_var 1) qa_nil)) qa_nil))))), fun ds QD h => ?_⟩)
  · obtain ⟨xs, rfl, _⟩ := h; rfl
  · obtain ⟨xs, rfl, h1, h2, h⟩ := h
    repeat (first | refine ⟨_, rfl, ?_⟩ | refine ⟨_, _, rfl, rfl, ?_⟩ | refine ⟨_, _, _, .inr rfl, rfl, rfl, ?_⟩ | refine ⟨_, _, _, .inl rfl, rfl, rfl, ?_⟩ | refine ⟨_, .inr rfl, ?_⟩ | refine ⟨_, .inl rfl, ?_⟩ | refine ⟨(by intro s z; cases z), ?_⟩ | refine ⟨Nat.le_of_ble_eq_true rfl, ?_⟩ | refine ⟨rfl, ?_⟩ | refine iteT ?_ | refine iteF ?_ | refine ⟨_, _, rfl, ?_⟩ | refine ⟨_, _, _, rfl, ?_⟩)
    refine ⟨by rw [List.length_map]; exact h1, by rw [List.length_map]; omega, fun v hv => ?_⟩
    rw [List.length_map] at hv
    exact ⟨_, _, _, .inl rfl, rfl, atI_map (List.getElem?_eq_getElem hv), h _ (List.getElem_mem hv)⟩
def phi__law_tie : Phi := fun ds Q => ∃ n k : Nat, ds = [eN n, eN k] ∧ 2 ≤ n ∧ n ≤ 7 ∧ 1 ≤ k ∧ k ≤ 3 ∧ ∀ t, TieOk n t → t.2.2 < k → Q (eTie t)
abbrev s__law_tie : Stmt := topS 58
theorem sc__law_tie : FnScope ["_law_deck_here", "_law_n", "_law_kinds", "_law_a", "_law_b"] ["_law_deck_here", "_law_n", "_law_kinds"] (defScope s__law_tie) := ⟨rfl, rfl, rfl, by decide +kernel, rfl, by decide +kernel, by decide +kernel⟩
theorem ok__law_tie {f : Addr} {fd : FuncData} (F : Fun K "_law_tie" "_law_tie" s__law_tie f fd) (N : Nms mg) (h__law_draw : Has P w K mg base "_law_draw" 1 ["_law_deck_here", "_law_many_here"] (spD T phi__law_draw)) : FnOk P w K mg base CX0 2 f fd ["_law_deck_here", "_law_n", "_law_kinds"] (spD T phi__law_tie) := by
  refine fnD F sc__law_tie (fun ds QD h => ?_) (fun dk cdv A outer s H E hr => ⟨_, _, (by exact qss_cons (qs_par (i := 3) (j := 4) rfl sc__law_tie.nd rfl rfl (by decide) rfl rfl (qa_cons (q_callD (i := 0) h__law_draw (hr.mono (by decide)) (qa_cons (q_var 1) qa_nil)) (qa_cons (q_callD (i := 0) h__law_draw (hr.mono (by decide)) (qa_cons (q_sub (q_var 1) q_int) qa_nil)) qa_nil)) (by rfl)) (qss_one (qs_ret (q_tup (qa_cons (q_var 3) (qa_cons (q_ifExp (qt_cmp op_lt l_lt (by decide) (by decide) (q_var 4) (q_var 3)) (q_var 4) (q_add (q_var 4) q_int)) (qa_cons (q_callD (i := 0) h__law_draw (hr.mono (by decide)) (qa_cons (q_var 2) qa_nil)) qa_nil))))))), fun ds QD h => ?_⟩)
  · obtain ⟨n, k, rfl, _⟩ := h; rfl
  · obtain ⟨n, k, rfl, h1, h2, h3, h4, h⟩ := h
    repeat (first | refine ⟨_, rfl, ?_⟩ | refine ⟨_, _, rfl, rfl, ?_⟩ | refine ⟨_, _, _, .inr rfl, rfl, rfl, ?_⟩ | refine ⟨_, _, _, .inl rfl, rfl, rfl, ?_⟩ | refine ⟨_, .inr rfl, ?_⟩ | refine ⟨_, .inl rfl, ?_⟩ | refine ⟨(by intro s z; cases z), ?_⟩ | refine ⟨Nat.le_of_ble_eq_true rfl, ?_⟩ | refine ⟨rfl, ?_⟩ | refine iteT ?_ | refine iteF ?_ | refine ⟨_, _, rfl, ?_⟩ | refine ⟨_, _, _, rfl, ?_⟩)
    refine ⟨by omega, by omega, fun a ha => ?_⟩
    repeat (first | refine ⟨_, rfl, ?_⟩ | refine ⟨_, _, rfl, rfl, ?_⟩ | refine ⟨_, _, _, .inr rfl, rfl, rfl, ?_⟩ | refine ⟨_, _, _, .inl rfl, rfl, rfl, ?_⟩ | refine ⟨_, .inr rfl, ?_⟩ | refine ⟨_, .inl rfl, ?_⟩ | refine ⟨(by intro s z; cases z), ?_⟩ | refine ⟨Nat.le_of_ble_eq_true rfl, ?_⟩ | refine ⟨rfl, ?_⟩ | refine iteT ?_ | refine iteF ?_ | refine ⟨_, _, rfl, ?_⟩ | refine ⟨_, _, _, rfl, ?_⟩)
    refine ⟨n - 1, by simp [eN]; omega, by omega, by omega, fun b hb => ?_⟩
    repeat (first | refine ⟨_, rfl, ?_⟩ | refine ⟨_, _, rfl, rfl, ?_⟩ | refine ⟨_, _, _, .inr rfl, rfl, rfl, ?_⟩ | refine ⟨_, _, _, .inl rfl, rfl, rfl, ?_⟩ | refine ⟨_, .inr rfl, ?_⟩ | refine ⟨_, .inl rfl, ?_⟩ | refine ⟨(by intro s z; cases z), ?_⟩ | refine ⟨Nat.le_of_ble_eq_true rfl, ?_⟩ | refine ⟨rfl, ?_⟩ | refine iteT ?_ | refine iteF ?_ | refine ⟨_, _, rfl, ?_⟩ | refine ⟨_, _, _, rfl, ?_⟩)
    by_cases hba : b < a
    · refine iteB (decide_eq_true (by omega)) ?_
      repeat (first | refine ⟨_, rfl, ?_⟩ | refine ⟨_, _, rfl, rfl, ?_⟩ | refine ⟨_, _, _, .inr rfl, rfl, rfl, ?_⟩ | refine ⟨_, _, _, .inl rfl, rfl, rfl, ?_⟩ | refine ⟨_, .inr rfl, ?_⟩ | refine ⟨_, .inl rfl, ?_⟩ | refine ⟨(by intro s z; cases z), ?_⟩ | refine ⟨Nat.le_of_ble_eq_true rfl, ?_⟩ | refine ⟨rfl, ?_⟩ | refine iteT ?_ | refine iteF ?_ | refine ⟨_, _, rfl, ?_⟩ | refine ⟨_, _, _, rfl, ?_⟩)
      refine ⟨by omega, by omega, fun c hc => ?_⟩
      repeat (first | refine ⟨_, rfl, ?_⟩ | refine ⟨_, _, rfl, rfl, ?_⟩ | refine ⟨_, _, _, .inr rfl, rfl, rfl, ?_⟩ | refine ⟨_, _, _, .inl rfl, rfl, rfl, ?_⟩ | refine ⟨_, .inr rfl, ?_⟩ | refine ⟨_, .inl rfl, ?_⟩ | refine ⟨(by intro s z; cases z), ?_⟩ | refine ⟨Nat.le_of_ble_eq_true rfl, ?_⟩ | refine ⟨rfl, ?_⟩ | refine iteT ?_ | refine iteF ?_ | refine ⟨_, _, rfl, ?_⟩ | refine ⟨_, _, _, rfl, ?_⟩)
      exact h (a, b, c) ⟨ha, by show b < n; omega, by show a ≠ b; omega, by show c < 3; omega⟩ hc
    · refine iteN (decide_eq_false (by omega)) ?_
      repeat (first | refine ⟨_, rfl, ?_⟩ | refine ⟨_, _, rfl, rfl, ?_⟩ | refine ⟨_, _, _, .inr rfl, rfl, rfl, ?_⟩ | refine ⟨_, _, _, .inl rfl, rfl, rfl, ?_⟩ | refine ⟨_, .inr rfl, ?_⟩ | refine ⟨_, .inl rfl, ?_⟩ | refine ⟨(by intro s z; cases z), ?_⟩ | refine ⟨Nat.le_of_ble_eq_true rfl, ?_⟩ | refine ⟨rfl, ?_⟩ | refine iteT ?_ | refine iteF ?_ | refine ⟨_, _, rfl, ?_⟩ | refine ⟨_, _, _, rfl, ?_⟩)
      refine ⟨by omega, by omega, fun c hc => ?_⟩
      repeat (first | refine ⟨_, rfl, ?_⟩ | refine ⟨_, _, rfl, rfl, ?_⟩ | refine ⟨_, _, _, .inr rfl, rfl, rfl, ?_⟩ | refine ⟨_, _, _, .inl rfl, rfl, rfl, ?_⟩ | refine ⟨_, .inr rfl, ?_⟩ | refine ⟨_, .inl rfl, ?_⟩ | refine ⟨(by intro s z; cases z), ?_⟩ | refine ⟨Nat.le_of_ble_eq_true rfl, ?_⟩ | refine ⟨rfl, ?_⟩ | refine iteT ?_ | refine iteF ?_ | refine ⟨_, _, rfl, ?_⟩ | refine ⟨_, _, _, rfl, ?_⟩)
      exact h (a, b + 1, c) ⟨ha, by show b + 1 < n; omega, by show a ≠ b + 1; omega, by show c < 3; omega⟩ hc
def phi__law_web : Phi := fun ds Q => ∃ n k m : Nat, ds = [eN n, eN k, eN m] ∧ 1 ≤ n ∧ n ≤ 7 ∧ 1 ≤ k ∧ k ≤ 3 ∧ m ≤ 10 ∧ ∀ v, WebOk v → v.1 = n → v.2.length ≤ m → Below v k → Q (eWeb v)
abbrev s__law_web : Stmt := topS 59
theorem sc__law_web : FnScope ["_law_deck_here", "_law_n", "_law_kinds", "_law_many_here", "_law_ties", "_law_turn"] ["_law_deck_here", "_law_n", "_law_kinds", "_law_many_here"] (defScope s__law_web) := ⟨rfl, rfl, rfl, by decide +kernel, rfl, by decide +kernel, by decide +kernel⟩
theorem ok__law_web {f : Addr} {fd : FuncData} (F : Fun K "_law_web" "_law_web" s__law_web f fd) (N : Nms mg) (h__law_tie : Has P w K mg base "_law_tie" 2 ["_law_deck_here", "_law_n", "_law_kinds"] (spD T phi__law_tie)) (h__law_draw : Has P w K mg base "_law_draw" 1 ["_law_deck_here", "_law_many_here"] (spD T phi__law_draw)) : FnOk P w K mg base CX0 3 f fd ["_law_deck_here", "_law_n", "_law_kinds", "_law_many_here"] (spD T phi__law_web) := by
  refine fnD F sc__law_web (fun ds QD h => ?_) (fun dk cdv A outer s H E hr => ⟨_, _, (by have hu := hr.units; exact qss_cons (qs_setLc (i := 4) rfl sc__law_web.nd rfl rfl (sw_true rfl rfl rfl (by decide +kernel)) (own := [("_law_turn", 5)]) (qi_rng1 rfl N.range (q_ifExp (qt_cmp op_gt l_gt (by decide) (by decide) (q_var 1) q_int) (q_var 3) q_int)) (blkOk_by (by rfl)) (fun _ _ _ _ _ => (qg_name (i := 5) sc__law_web.nd)) (fun _ _ _ _ _ => qts_nil) (fun _ _ _ _ _ => (q_callD (i := 0) h__law_tie (hr.mono (by decide)) (qa_cons (q_var 1) (qa_cons (q_var 2) qa_nil)))) (by decide) s) (qss_cons (qs_if (PDW.pdt (qw_and (qt_cmp op_gt l_gt (by decide) (by decide) (q_lenO 4 N.len) q_int) (qw_and1 (qt_cmp op_eq l_eqI (by decide) (by decide) (q_callD (i := 0) h__law_draw (hr.mono (by decide)) (qa_cons q_int qa_nil)) q_int)))) (qss_one (qs_putO 4 q_int (q_ixO 4 (q_neg q_int)))) (qss_nil)) (qss_fz 4 (qss_one (qs_ret (q_tup (qa_cons (q_var 1) (qa_cons (q_cty call_tuple_of l_tuple rfl N.tuple bt_tuple (qa_cons (PDL.pde (ql_sorted hu rfl N.sorted (q_var 4))) qa_nil)) qa_nil)))))))), fun ds QD h => ?_⟩)
  · obtain ⟨n, k, m, rfl, _⟩ := h; rfl
  · obtain ⟨n, k, m, rfl, h1, h2, h3, h4, h5, h⟩ := h
    have fin : ∀ ts : List Tie, (∀ t ∈ ts, TieOk n t ∧ t.2.2 < k) → ts.length ≤ m → QD (.tuple [eN n, .tuple ((sortE eTie ts).map eTie)]) := fun ts ht hl => h (n, sortE eTie ts) ⟨h1, by show n ≤ 400; omega, fun t hm => (ht t (sortE_mem.mp hm)).1, sortE_pair ts, by rw [sortE_len]; omega⟩ rfl (by rw [sortE_len]; exact hl) fun t hm => (ht t (sortE_mem.mp hm)).2
    repeat (first | refine ⟨_, rfl, ?_⟩ | refine ⟨_, _, rfl, rfl, ?_⟩ | refine ⟨_, _, _, .inr rfl, rfl, rfl, ?_⟩ | refine ⟨_, _, _, .inl rfl, rfl, rfl, ?_⟩ | refine ⟨_, .inr rfl, ?_⟩ | refine ⟨_, .inl rfl, ?_⟩ | refine ⟨(by intro s z; cases z), ?_⟩ | refine ⟨Nat.le_of_ble_eq_true rfl, ?_⟩ | refine ⟨rfl, ?_⟩ | refine iteT ?_ | refine iteF ?_ | refine ⟨_, _, rfl, ?_⟩ | refine ⟨_, _, _, rfl, ?_⟩)
    by_cases hn : 1 < n
    · refine iteB (decide_eq_true (by omega)) ?_
      repeat (first | refine ⟨_, rfl, ?_⟩ | refine ⟨_, _, rfl, rfl, ?_⟩ | refine ⟨_, _, _, .inr rfl, rfl, rfl, ?_⟩ | refine ⟨_, _, _, .inl rfl, rfl, rfl, ?_⟩ | refine ⟨_, .inr rfl, ?_⟩ | refine ⟨_, .inl rfl, ?_⟩ | refine ⟨(by intro s z; cases z), ?_⟩ | refine ⟨Nat.le_of_ble_eq_true rfl, ?_⟩ | refine ⟨rfl, ?_⟩ | refine iteT ?_ | refine iteF ?_ | refine ⟨_, _, rfl, ?_⟩ | refine ⟨_, _, _, rfl, ?_⟩)
      refine ⟨by omega, by omega, ?_⟩
      rw [rgN0]
      refine lc_any (enc := eN) (P := fun d => ∃ t, d = eTie t ∧ TieOk n t ∧ t.2.2 < k) (List.range m) [] (by simp; omega) (fun x hx K1 hK1 => ?_) fun ys hl hys => ?_
      · repeat (first | refine ⟨_, rfl, ?_⟩ | refine ⟨_, _, rfl, rfl, ?_⟩ | refine ⟨_, _, _, .inr rfl, rfl, rfl, ?_⟩ | refine ⟨_, _, _, .inl rfl, rfl, rfl, ?_⟩ | refine ⟨_, .inr rfl, ?_⟩ | refine ⟨_, .inl rfl, ?_⟩ | refine ⟨(by intro s z; cases z), ?_⟩ | refine ⟨Nat.le_of_ble_eq_true rfl, ?_⟩ | refine ⟨rfl, ?_⟩ | refine iteT ?_ | refine iteF ?_ | refine ⟨_, _, rfl, ?_⟩ | refine ⟨_, _, _, rfl, ?_⟩)
        exact ⟨by omega, by omega, h3, h4, fun t ht hk => hK1 _ ⟨t, rfl, ht, hk⟩⟩
      · obtain ⟨ts, rfl, hts⟩ := all_map (e := eTie) (p := fun t => TieOk n t ∧ t.2.2 < k) ys hys
        rw [List.length_map, List.length_range] at hl
        rw [List.nil_append]
        repeat (first | refine ⟨_, rfl, ?_⟩ | refine ⟨_, _, rfl, rfl, ?_⟩ | refine ⟨_, _, _, .inr rfl, rfl, rfl, ?_⟩ | refine ⟨_, _, _, .inl rfl, rfl, rfl, ?_⟩ | refine ⟨_, .inr rfl, ?_⟩ | refine ⟨_, .inl rfl, ?_⟩ | refine ⟨(by intro s z; cases z), ?_⟩ | refine ⟨Nat.le_of_ble_eq_true rfl, ?_⟩ | refine ⟨rfl, ?_⟩ | refine iteT ?_ | refine iteF ?_ | refine ⟨_, _, rfl, ?_⟩ | refine ⟨_, _, _, rfl, ?_⟩)
        by_cases h2t : 1 < ts.length
        · refine iteB (decide_eq_true (by rw [List.length_map]; omega)) ?_
          repeat (first | refine ⟨_, rfl, ?_⟩ | refine ⟨_, _, rfl, rfl, ?_⟩ | refine ⟨_, _, _, .inr rfl, rfl, rfl, ?_⟩ | refine ⟨_, _, _, .inl rfl, rfl, rfl, ?_⟩ | refine ⟨_, .inr rfl, ?_⟩ | refine ⟨_, .inl rfl, ?_⟩ | refine ⟨(by intro s z; cases z), ?_⟩ | refine ⟨Nat.le_of_ble_eq_true rfl, ?_⟩ | refine ⟨rfl, ?_⟩ | refine iteT ?_ | refine iteF ?_ | refine ⟨_, _, rfl, ?_⟩ | refine ⟨_, _, _, rfl, ?_⟩)
          intro v hv
          repeat (first | refine ⟨_, rfl, ?_⟩ | refine ⟨_, _, rfl, rfl, ?_⟩ | refine ⟨_, _, _, .inr rfl, rfl, rfl, ?_⟩ | refine ⟨_, _, _, .inl rfl, rfl, rfl, ?_⟩ | refine ⟨_, .inr rfl, ?_⟩ | refine ⟨_, .inl rfl, ?_⟩ | refine ⟨(by intro s z; cases z), ?_⟩ | refine ⟨Nat.le_of_ble_eq_true rfl, ?_⟩ | refine ⟨rfl, ?_⟩ | refine iteT ?_ | refine iteF ?_ | refine ⟨_, _, rfl, ?_⟩ | refine ⟨_, _, _, rfl, ?_⟩)
          by_cases hv0 : v = 0
          · refine iteB (decide_eq_true (by omega)) ?_
            obtain ⟨a, r, z, rfl⟩ : ∃ a r z, ts = a :: (r ++ [z]) := by
              cases ts with
              | nil => simp at h2t
              | cons a r =>
                have : r ≠ [] := by intro e; subst e; simp at h2t
                exact ⟨a, r.dropLast, r.getLast this, by rw [List.dropLast_concat_getLast]⟩
            repeat (first | refine ⟨_, rfl, ?_⟩ | refine ⟨_, _, rfl, rfl, ?_⟩ | refine ⟨_, _, _, .inr rfl, rfl, rfl, ?_⟩ | refine ⟨_, _, _, .inl rfl, rfl, rfl, ?_⟩ | refine ⟨_, .inr rfl, ?_⟩ | refine ⟨_, .inl rfl, ?_⟩ | refine ⟨(by intro s z; cases z), ?_⟩ | refine ⟨Nat.le_of_ble_eq_true rfl, ?_⟩ | refine ⟨rfl, ?_⟩ | refine iteT ?_ | refine iteF ?_ | refine ⟨_, _, rfl, ?_⟩ | refine ⟨_, _, _, rfl, ?_⟩)
            have e1 : atI (List.map eTie (a :: (r ++ [z]))) (-1) = some (eTie z) := by
              have := atI_snoc (xs := List.map eTie (a :: r)) (x := eTie z)
              simpa using this
            refine ⟨_, _, rfl, e1, ?_⟩
            repeat (first | refine ⟨_, rfl, ?_⟩ | refine ⟨_, _, rfl, rfl, ?_⟩ | refine ⟨_, _, _, .inr rfl, rfl, rfl, ?_⟩ | refine ⟨_, _, _, .inl rfl, rfl, rfl, ?_⟩ | refine ⟨_, .inr rfl, ?_⟩ | refine ⟨_, .inl rfl, ?_⟩ | refine ⟨(by intro s z; cases z), ?_⟩ | refine ⟨Nat.le_of_ble_eq_true rfl, ?_⟩ | refine ⟨rfl, ?_⟩ | refine iteT ?_ | refine iteF ?_ | refine ⟨_, _, rfl, ?_⟩ | refine ⟨_, _, _, rfl, ?_⟩)
            have e2 : ixN (List.map eTie (a :: (r ++ [z]))).length 0 = some 0 := by
              unfold ixN
              simp
              omega
            refine ⟨_, _, rfl, e2, ?_⟩
            have e3 : (List.map eTie (a :: (r ++ [z]))).set 0 (eTie z) = List.map eTie (z :: (r ++ [z])) := rfl
            rw [e3]
            repeat (first | refine ⟨_, rfl, ?_⟩ | refine ⟨_, _, rfl, rfl, ?_⟩ | refine ⟨_, _, _, .inr rfl, rfl, rfl, ?_⟩ | refine ⟨_, _, _, .inl rfl, rfl, rfl, ?_⟩ | refine ⟨_, .inr rfl, ?_⟩ | refine ⟨_, .inl rfl, ?_⟩ | refine ⟨(by intro s z; cases z), ?_⟩ | refine ⟨Nat.le_of_ble_eq_true rfl, ?_⟩ | refine ⟨rfl, ?_⟩ | refine iteT ?_ | refine iteF ?_ | refine ⟨_, _, rfl, ?_⟩ | refine ⟨_, _, _, rfl, ?_⟩)
            refine ⟨sortOk enc_tie (fun b => ⟨_, _, rfl⟩) (by simp at hl ⊢; omega), ?_⟩
            rw [srtD_map]
            repeat (first | refine ⟨_, rfl, ?_⟩ | refine ⟨_, _, rfl, rfl, ?_⟩ | refine ⟨_, _, _, .inr rfl, rfl, rfl, ?_⟩ | refine ⟨_, _, _, .inl rfl, rfl, rfl, ?_⟩ | refine ⟨_, .inr rfl, ?_⟩ | refine ⟨_, .inl rfl, ?_⟩ | refine ⟨(by intro s z; cases z), ?_⟩ | refine ⟨Nat.le_of_ble_eq_true rfl, ?_⟩ | refine ⟨rfl, ?_⟩ | refine iteT ?_ | refine iteF ?_ | refine ⟨_, _, rfl, ?_⟩ | refine ⟨_, _, _, rfl, ?_⟩)
            refine fin (z :: (r ++ [z])) (fun t ht => ?_) (by simp at hl ⊢; omega)
            refine hts t ?_
            rcases List.mem_cons.mp ht with e | e
            · rw [e]; simp
            · exact List.mem_cons_of_mem _ e
          · refine iteN (decide_eq_false (by omega)) ?_
            repeat (first | refine ⟨_, rfl, ?_⟩ | refine ⟨_, _, rfl, rfl, ?_⟩ | refine ⟨_, _, _, .inr rfl, rfl, rfl, ?_⟩ | refine ⟨_, _, _, .inl rfl, rfl, rfl, ?_⟩ | refine ⟨_, .inr rfl, ?_⟩ | refine ⟨_, .inl rfl, ?_⟩ | refine ⟨(by intro s z; cases z), ?_⟩ | refine ⟨Nat.le_of_ble_eq_true rfl, ?_⟩ | refine ⟨rfl, ?_⟩ | refine iteT ?_ | refine iteF ?_ | refine ⟨_, _, rfl, ?_⟩ | refine ⟨_, _, _, rfl, ?_⟩)
            refine ⟨sortOk enc_tie (fun b => ⟨_, _, rfl⟩) (by omega), ?_⟩
            rw [srtD_map]
            repeat (first | refine ⟨_, rfl, ?_⟩ | refine ⟨_, _, rfl, rfl, ?_⟩ | refine ⟨_, _, _, .inr rfl, rfl, rfl, ?_⟩ | refine ⟨_, _, _, .inl rfl, rfl, rfl, ?_⟩ | refine ⟨_, .inr rfl, ?_⟩ | refine ⟨_, .inl rfl, ?_⟩ | refine ⟨(by intro s z; cases z), ?_⟩ | refine ⟨Nat.le_of_ble_eq_true rfl, ?_⟩ | refine ⟨rfl, ?_⟩ | refine iteT ?_ | refine iteF ?_ | refine ⟨_, _, rfl, ?_⟩ | refine ⟨_, _, _, rfl, ?_⟩)
            exact fin ts hts (by omega)
        · refine iteN (decide_eq_false (by rw [List.length_map]; omega)) ?_
          repeat (first | refine ⟨_, rfl, ?_⟩ | refine ⟨_, _, rfl, rfl, ?_⟩ | refine ⟨_, _, _, .inr rfl, rfl, rfl, ?_⟩ | refine ⟨_, _, _, .inl rfl, rfl, rfl, ?_⟩ | refine ⟨_, .inr rfl, ?_⟩ | refine ⟨_, .inl rfl, ?_⟩ | refine ⟨(by intro s z; cases z), ?_⟩ | refine ⟨Nat.le_of_ble_eq_true rfl, ?_⟩ | refine ⟨rfl, ?_⟩ | refine iteT ?_ | refine iteF ?_ | refine ⟨_, _, rfl, ?_⟩ | refine ⟨_, _, _, rfl, ?_⟩)
          refine ⟨sortOk enc_tie (fun b => ⟨_, _, rfl⟩) (by omega), ?_⟩
          rw [srtD_map]
          repeat (first | refine ⟨_, rfl, ?_⟩ | refine ⟨_, _, rfl, rfl, ?_⟩ | refine ⟨_, _, _, .inr rfl, rfl, rfl, ?_⟩ | refine ⟨_, _, _, .inl rfl, rfl, rfl, ?_⟩ | refine ⟨_, .inr rfl, ?_⟩ | refine ⟨_, .inl rfl, ?_⟩ | refine ⟨(by intro s z; cases z), ?_⟩ | refine ⟨Nat.le_of_ble_eq_true rfl, ?_⟩ | refine ⟨rfl, ?_⟩ | refine iteT ?_ | refine iteF ?_ | refine ⟨_, _, rfl, ?_⟩ | refine ⟨_, _, _, rfl, ?_⟩)
          exact fin ts hts (by omega)
    · refine iteN (decide_eq_false (by omega)) ?_
      repeat (first | refine ⟨_, rfl, ?_⟩ | refine ⟨_, _, rfl, rfl, ?_⟩ | refine ⟨_, _, _, .inr rfl, rfl, rfl, ?_⟩ | refine ⟨_, _, _, .inl rfl, rfl, rfl, ?_⟩ | refine ⟨_, .inr rfl, ?_⟩ | refine ⟨_, .inl rfl, ?_⟩ | refine ⟨(by intro s z; cases z), ?_⟩ | refine ⟨Nat.le_of_ble_eq_true rfl, ?_⟩ | refine ⟨rfl, ?_⟩ | refine iteT ?_ | refine iteF ?_ | refine ⟨_, _, rfl, ?_⟩ | refine ⟨_, _, _, rfl, ?_⟩)
      refine ⟨by omega, by omega, ?_⟩
      repeat (first | refine ⟨_, rfl, ?_⟩ | refine ⟨_, _, rfl, rfl, ?_⟩ | refine ⟨_, _, _, .inr rfl, rfl, rfl, ?_⟩ | refine ⟨_, _, _, .inl rfl, rfl, rfl, ?_⟩ | refine ⟨_, .inr rfl, ?_⟩ | refine ⟨_, .inl rfl, ?_⟩ | refine ⟨(by intro s z; cases z), ?_⟩ | refine ⟨Nat.le_of_ble_eq_true rfl, ?_⟩ | refine ⟨rfl, ?_⟩ | refine iteT ?_ | refine iteF ?_ | refine ⟨_, _, rfl, ?_⟩ | refine ⟨_, _, _, rfl, ?_⟩)
      refine ⟨sortOk (xs := []) enc_tie (fun b => ⟨_, _, rfl⟩) (by simp), ?_⟩
      repeat (first | refine ⟨_, rfl, ?_⟩ | refine ⟨_, _, rfl, rfl, ?_⟩ | refine ⟨_, _, _, .inr rfl, rfl, rfl, ?_⟩ | refine ⟨_, _, _, .inl rfl, rfl, rfl, ?_⟩ | refine ⟨_, .inr rfl, ?_⟩ | refine ⟨_, .inl rfl, ?_⟩ | refine ⟨(by intro s z; cases z), ?_⟩ | refine ⟨Nat.le_of_ble_eq_true rfl, ?_⟩ | refine ⟨rfl, ?_⟩ | refine iteT ?_ | refine iteF ?_ | refine ⟨_, _, rfl, ?_⟩ | refine ⟨_, _, _, rfl, ?_⟩)
      have e0 : srtD [] = (sortE eTie []).map eTie := srtD_map (e := eTie) []
      rw [e0]
      exact fin [] (fun t ht => nomatch ht) (Nat.zero_le _)
def phi__law_book : Phi := fun ds Q => ds = [] ∧ ∀ b, BookOk b → Q (eBook b)
def phi__law_growth : Phi := fun ds Q => ∃ (k : Nat) (full : Bool), ds = [eN k, .bool full] ∧ 1 ≤ k ∧ k ≤ 3 ∧ ∀ v, WebOk v → 2 ≤ v.1 → Below v k → Q (eWeb v)
abbrev s__law_book : Stmt := topS 61
theorem sc__law_book : FnScope ["_law_deck_here", "_law_kinds", "_law_full", "_law_turn"] ["_law_deck_here"] (defScope s__law_book) := ⟨rfl, rfl, rfl, by decide +kernel, rfl, by decide +kernel, by decide +kernel⟩
theorem ok__law_book {f : Addr} {fd : FuncData} (F : Fun K "_law_book" "_law_book" s__law_book f fd) (N : Nms mg) (h__law_pick : Has P w K mg base "_law_pick" 2 ["_law_deck_here", "_law_some"] (spD T phi__law_pick)) (h__law_draw : Has P w K mg base "_law_draw" 1 ["_law_deck_here", "_law_many_here"] (spD T phi__law_draw)) (h__law_growth : Has P w K mg base "_law_growth" 4 ["_law_deck_here", "_law_kinds", "_law_full"] (spD T phi__law_growth)) : FnOk P w K mg base CX0 5 f fd ["_law_deck_here"] (spD T phi__law_book) := by
  refine fnD F sc__law_book (fun ds QD h => ?_) (fun dk cdv A outer s H E hr => ⟨_, _, (by exact qss_cons (qs_asg (q_tup (qa_cons (q_callD (i := 0) h__law_pick (hr.mono (by decide)) (qa_cons (PDL.pde (ql_lst (qa_cons q_int (qa_cons q_int (qa_cons q_int (qa_cons q_int qa_nil)))))) qa_nil)) (qa_cons (q_cmp op_eq l_eqI (by decide) (by decide) (q_callD (i := 0) h__law_draw (hr.mono (by decide)) (qa_cons q_int qa_nil)) q_int) qa_nil))) (qg_tupK (n := 2) rfl (qgs_cons (qg_name (i := 1) sc__law_book.nd) (qgs_cons (qg_name (i := 2) sc__law_book.nd) qgs_nil)))) (qss_one (qs_ret (q_cty call_tuple_of l_tuple rfl N.tuple bt_tuple (qa_cons (PDL.pde (ql_lc rfl sc__law_book.nd (own := [("_law_turn", 3)]) (qi_rng1 rfl N.range (q_var 1)) (blkOk_by (by rfl)) (fun _ _ _ _ _ => (qg_name (i := 3) sc__law_book.nd)) (fun _ _ _ _ _ => qts_nil) (fun _ _ _ _ _ => (q_callD (i := 0) h__law_growth (hr.mono (by decide)) (qa_cons (q_var 1) (qa_cons (q_var 2) qa_nil)))) (by decide) s)) qa_nil))))), fun ds QD h => ?_⟩)
  · obtain ⟨rfl, _⟩ := h; rfl
  · obtain ⟨rfl, h⟩ := h
    repeat (first | refine ⟨_, rfl, ?_⟩ | refine ⟨_, _, rfl, rfl, ?_⟩ | refine ⟨_, _, _, .inr rfl, rfl, rfl, ?_⟩ | refine ⟨_, _, _, .inl rfl, rfl, rfl, ?_⟩ | refine ⟨_, .inr rfl, ?_⟩ | refine ⟨_, .inl rfl, ?_⟩ | refine ⟨(by intro s z; cases z), ?_⟩ | refine ⟨Nat.le_of_ble_eq_true rfl, ?_⟩ | refine ⟨rfl, ?_⟩ | refine iteT ?_ | refine iteF ?_ | refine ⟨_, _, rfl, ?_⟩ | refine ⟨_, _, _, rfl, ?_⟩)
    refine ⟨[1, 2, 2, 3], rfl, by decide, by decide, fun k hk => ?_⟩
    have hk3 : 1 ≤ k ∧ k ≤ 3 := by
      simp at hk
      omega
    repeat (first | refine ⟨_, rfl, ?_⟩ | refine ⟨_, _, rfl, rfl, ?_⟩ | refine ⟨_, _, _, .inr rfl, rfl, rfl, ?_⟩ | refine ⟨_, _, _, .inl rfl, rfl, rfl, ?_⟩ | refine ⟨_, .inr rfl, ?_⟩ | refine ⟨_, .inl rfl, ?_⟩ | refine ⟨(by intro s z; cases z), ?_⟩ | refine ⟨Nat.le_of_ble_eq_true rfl, ?_⟩ | refine ⟨rfl, ?_⟩ | refine iteT ?_ | refine iteF ?_ | refine ⟨_, _, rfl, ?_⟩ | refine ⟨_, _, _, rfl, ?_⟩)
    intro v hv
    repeat (first | refine ⟨_, rfl, ?_⟩ | refine ⟨_, _, rfl, rfl, ?_⟩ | refine ⟨_, _, _, .inr rfl, rfl, rfl, ?_⟩ | refine ⟨_, _, _, .inl rfl, rfl, rfl, ?_⟩ | refine ⟨_, .inr rfl, ?_⟩ | refine ⟨_, .inl rfl, ?_⟩ | refine ⟨(by intro s z; cases z), ?_⟩ | refine ⟨Nat.le_of_ble_eq_true rfl, ?_⟩ | refine ⟨rfl, ?_⟩ | refine iteT ?_ | refine iteF ?_ | refine ⟨_, _, rfl, ?_⟩ | refine ⟨_, _, _, rfl, ?_⟩)
    refine ⟨by omega, by omega, ?_⟩
    rw [rgN0]
    refine lc_any (enc := eN) (P := fun d => ∃ v, d = eWeb v ∧ WebOk v ∧ 2 ≤ v.1 ∧ Below v k) (List.range k) [] (by simp; omega) (fun x hx K1 hK1 => ?_) fun ys hl hys => ?_
    · repeat (first | refine ⟨_, rfl, ?_⟩ | refine ⟨_, _, rfl, rfl, ?_⟩ | refine ⟨_, _, _, .inr rfl, rfl, rfl, ?_⟩ | refine ⟨_, _, _, .inl rfl, rfl, rfl, ?_⟩ | refine ⟨_, .inr rfl, ?_⟩ | refine ⟨_, .inl rfl, ?_⟩ | refine ⟨(by intro s z; cases z), ?_⟩ | refine ⟨Nat.le_of_ble_eq_true rfl, ?_⟩ | refine ⟨rfl, ?_⟩ | refine iteT ?_ | refine iteF ?_ | refine ⟨_, _, rfl, ?_⟩ | refine ⟨_, _, _, rfl, ?_⟩)
      exact ⟨hk3.1, hk3.2, fun u h1 h2 h3 => hK1 _ ⟨u, rfl, h1, h2, h3⟩⟩
    · obtain ⟨b, rfl, hb⟩ := all_map (e := eWeb) (p := fun v => WebOk v ∧ 2 ≤ v.1 ∧ Below v k) ys hys
      rw [List.length_map, List.length_range] at hl
      repeat (first | refine ⟨_, rfl, ?_⟩ | refine ⟨_, _, rfl, rfl, ?_⟩ | refine ⟨_, _, _, .inr rfl, rfl, rfl, ?_⟩ | refine ⟨_, _, _, .inl rfl, rfl, rfl, ?_⟩ | refine ⟨_, .inr rfl, ?_⟩ | refine ⟨_, .inl rfl, ?_⟩ | refine ⟨(by intro s z; cases z), ?_⟩ | refine ⟨Nat.le_of_ble_eq_true rfl, ?_⟩ | refine ⟨rfl, ?_⟩ | refine iteT ?_ | refine iteF ?_ | refine ⟨_, _, rfl, ?_⟩ | refine ⟨_, _, _, rfl, ?_⟩)
      exact h b ⟨by omega, by omega, fun u hu => ⟨(hb u hu).1, (hb u hu).2.1, by rw [hl]; exact (hb u hu).2.2⟩⟩
def phi__law_start : Phi := fun ds Q => ∃ k : Nat, ds = [eN k] ∧ 1 ≤ k ∧ k ≤ 3 ∧ ∀ v, WebOk v → v.1 ≤ 7 → v.2.length ≤ 10 → Below v k → Q (eWeb v)
abbrev s__law_start : Stmt := topS 62
theorem sc__law_start : FnScope ["_law_deck_here", "_law_kinds"] ["_law_deck_here", "_law_kinds"] (defScope s__law_start) := ⟨rfl, rfl, rfl, by decide +kernel, rfl, by decide +kernel, by decide +kernel⟩
theorem ok__law_start {f : Addr} {fd : FuncData} (F : Fun K "_law_start" "_law_start" s__law_start f fd) (N : Nms mg) (h__law_web : Has P w K mg base "_law_web" 3 ["_law_deck_here", "_law_n", "_law_kinds", "_law_many_here"] (spD T phi__law_web)) (h__law_draw : Has P w K mg base "_law_draw" 1 ["_law_deck_here", "_law_many_here"] (spD T phi__law_draw)) : FnOk P w K mg base CX0 4 f fd ["_law_deck_here", "_law_kinds"] (spD T phi__law_start) := by
  refine fnD F sc__law_start (fun ds QD h => ?_) (fun dk cdv A outer s H E hr => ⟨_, _, (by exact qss_cons (qs_if (qt_cmp op_eq l_eqI (by decide) (by decide) (q_callD (i := 0) h__law_draw (hr.mono (by decide)) (qa_cons q_int qa_nil)) q_int) (qss_one (qs_ret (q_callD (i := 0) h__law_web (hr.mono (by decide)) (qa_cons q_int (qa_cons (q_var 1) (qa_cons q_int qa_nil)))))) (qss_nil)) (qss_one (qs_ret (q_callD (i := 0) h__law_web (hr.mono (by decide)) (qa_cons (q_add q_int (q_callD (i := 0) h__law_draw (hr.mono (by decide)) (qa_cons q_int qa_nil))) (qa_cons (q_var 1) (qa_cons (q_callD (i := 0) h__law_draw (hr.mono (by decide)) (qa_cons q_int qa_nil)) qa_nil))))))), fun ds QD h => ?_⟩)
  · obtain ⟨k, rfl, _⟩ := h; rfl
  · obtain ⟨k, rfl, h1, h2, h⟩ := h
    repeat (first | refine ⟨_, rfl, ?_⟩ | refine ⟨_, _, rfl, rfl, ?_⟩ | refine ⟨_, _, _, .inr rfl, rfl, rfl, ?_⟩ | refine ⟨_, _, _, .inl rfl, rfl, rfl, ?_⟩ | refine ⟨_, .inr rfl, ?_⟩ | refine ⟨_, .inl rfl, ?_⟩ | refine ⟨(by intro s z; cases z), ?_⟩ | refine ⟨Nat.le_of_ble_eq_true rfl, ?_⟩ | refine ⟨rfl, ?_⟩ | refine iteT ?_ | refine iteF ?_ | refine ⟨_, _, rfl, ?_⟩ | refine ⟨_, _, _, rfl, ?_⟩)
    intro v hv
    repeat (first | refine ⟨_, rfl, ?_⟩ | refine ⟨_, _, rfl, rfl, ?_⟩ | refine ⟨_, _, _, .inr rfl, rfl, rfl, ?_⟩ | refine ⟨_, _, _, .inl rfl, rfl, rfl, ?_⟩ | refine ⟨_, .inr rfl, ?_⟩ | refine ⟨_, .inl rfl, ?_⟩ | refine ⟨(by intro s z; cases z), ?_⟩ | refine ⟨Nat.le_of_ble_eq_true rfl, ?_⟩ | refine ⟨rfl, ?_⟩ | refine iteT ?_ | refine iteF ?_ | refine ⟨_, _, rfl, ?_⟩ | refine ⟨_, _, _, rfl, ?_⟩)
    by_cases h0 : v = 0
    · refine iteB (decide_eq_true (by omega)) ?_
      repeat (first | refine ⟨_, rfl, ?_⟩ | refine ⟨_, _, rfl, rfl, ?_⟩ | refine ⟨_, _, _, .inr rfl, rfl, rfl, ?_⟩ | refine ⟨_, _, _, .inl rfl, rfl, rfl, ?_⟩ | refine ⟨_, .inr rfl, ?_⟩ | refine ⟨_, .inl rfl, ?_⟩ | refine ⟨(by intro s z; cases z), ?_⟩ | refine ⟨Nat.le_of_ble_eq_true rfl, ?_⟩ | refine ⟨rfl, ?_⟩ | refine iteT ?_ | refine iteF ?_ | refine ⟨_, _, rfl, ?_⟩ | refine ⟨_, _, _, rfl, ?_⟩)
      exact ⟨h1, h2, Nat.le_refl _, fun u a b c d => h u a (by have b7 : u.1 = 7 := b; omega) c d⟩
    · refine iteN (decide_eq_false (by omega)) ?_
      repeat (first | refine ⟨_, rfl, ?_⟩ | refine ⟨_, _, rfl, rfl, ?_⟩ | refine ⟨_, _, _, .inr rfl, rfl, rfl, ?_⟩ | refine ⟨_, _, _, .inl rfl, rfl, rfl, ?_⟩ | refine ⟨_, .inr rfl, ?_⟩ | refine ⟨_, .inl rfl, ?_⟩ | refine ⟨(by intro s z; cases z), ?_⟩ | refine ⟨Nat.le_of_ble_eq_true rfl, ?_⟩ | refine ⟨rfl, ?_⟩ | refine iteT ?_ | refine iteF ?_ | refine ⟨_, _, rfl, ?_⟩ | refine ⟨_, _, _, rfl, ?_⟩)
      intro a ha
      repeat (first | refine ⟨_, rfl, ?_⟩ | refine ⟨_, _, rfl, rfl, ?_⟩ | refine ⟨_, _, _, .inr rfl, rfl, rfl, ?_⟩ | refine ⟨_, _, _, .inl rfl, rfl, rfl, ?_⟩ | refine ⟨_, .inr rfl, ?_⟩ | refine ⟨_, .inl rfl, ?_⟩ | refine ⟨(by intro s z; cases z), ?_⟩ | refine ⟨Nat.le_of_ble_eq_true rfl, ?_⟩ | refine ⟨rfl, ?_⟩ | refine iteT ?_ | refine iteF ?_ | refine ⟨_, _, rfl, ?_⟩ | refine ⟨_, _, _, rfl, ?_⟩)
      intro m hm
      repeat (first | refine ⟨_, rfl, ?_⟩ | refine ⟨_, _, rfl, rfl, ?_⟩ | refine ⟨_, _, _, .inr rfl, rfl, rfl, ?_⟩ | refine ⟨_, _, _, .inl rfl, rfl, rfl, ?_⟩ | refine ⟨_, .inr rfl, ?_⟩ | refine ⟨_, .inl rfl, ?_⟩ | refine ⟨(by intro s z; cases z), ?_⟩ | refine ⟨Nat.le_of_ble_eq_true rfl, ?_⟩ | refine ⟨rfl, ?_⟩ | refine iteT ?_ | refine iteF ?_ | refine ⟨_, _, rfl, ?_⟩ | refine ⟨_, _, _, rfl, ?_⟩)
      have ha4 : a < 4 := ha
      have hm5 : m < 5 := hm
      exact ⟨Nat.le_add_right 1 a, by show 1 + a ≤ 7; omega, h1, h2, by omega, fun u q b c d => h u q (by have b1 : u.1 = 1 + a := b; omega) (by omega) d⟩
def phi__law_garden : Phi := fun ds Q => ds = [] ∧ ∀ g, GarOk g → Q (eGar g)
abbrev s__law_garden : Stmt := topS 63
theorem sc__law_garden : FnScope ["_law_deck_here", "_law_book_here"] ["_law_deck_here"] (defScope s__law_garden) := ⟨rfl, rfl, rfl, by decide +kernel, rfl, by decide +kernel, by decide +kernel⟩
theorem ok__law_garden {f : Addr} {fd : FuncData} (F : Fun K "_law_garden" "_law_garden" s__law_garden f fd) (N : Nms mg) (h__law_book : Has P w K mg base "_law_book" 5 ["_law_deck_here"] (spD T phi__law_book)) (h__law_start : Has P w K mg base "_law_start" 4 ["_law_deck_here", "_law_kinds"] (spD T phi__law_start)) : FnOk P w K mg base CX0 6 f fd ["_law_deck_here"] (spD T phi__law_garden) := by
  refine fnD F sc__law_garden (fun ds QD h => ?_) (fun dk cdv A outer s H E hr => ⟨_, _, (by exact qss_cons (qs_set (i := 1) sc__law_garden.nd (q_callD (i := 0) h__law_book (hr.mono (by decide)) qa_nil)) (qss_one (qs_ret (q_tup (qa_cons (q_callD (i := 0) h__law_start (hr.mono (by decide)) (qa_cons (q_cb call_lenK l_len rfl N.len PySem.boot_len (qa_cons (q_var 1) qa_nil)) qa_nil)) (qa_cons (q_var 1) qa_nil)))))), fun ds QD h => ?_⟩)
  · obtain ⟨rfl, _⟩ := h; rfl
  · obtain ⟨rfl, h⟩ := h
    repeat (first | refine ⟨_, rfl, ?_⟩ | refine ⟨_, _, rfl, rfl, ?_⟩ | refine ⟨_, _, _, .inr rfl, rfl, rfl, ?_⟩ | refine ⟨_, _, _, .inl rfl, rfl, rfl, ?_⟩ | refine ⟨_, .inr rfl, ?_⟩ | refine ⟨_, .inl rfl, ?_⟩ | refine ⟨(by intro s z; cases z), ?_⟩ | refine ⟨Nat.le_of_ble_eq_true rfl, ?_⟩ | refine ⟨rfl, ?_⟩ | refine iteT ?_ | refine iteF ?_ | refine ⟨_, _, rfl, ?_⟩ | refine ⟨_, _, _, rfl, ?_⟩)
    intro b hb
    repeat (first | refine ⟨_, rfl, ?_⟩ | refine ⟨_, _, rfl, rfl, ?_⟩ | refine ⟨_, _, _, .inr rfl, rfl, rfl, ?_⟩ | refine ⟨_, _, _, .inl rfl, rfl, rfl, ?_⟩ | refine ⟨_, .inr rfl, ?_⟩ | refine ⟨_, .inl rfl, ?_⟩ | refine ⟨(by intro s z; cases z), ?_⟩ | refine ⟨Nat.le_of_ble_eq_true rfl, ?_⟩ | refine ⟨rfl, ?_⟩ | refine iteT ?_ | refine iteF ?_ | refine ⟨_, _, rfl, ?_⟩ | refine ⟨_, _, _, rfl, ?_⟩)
    refine ⟨by rw [List.length_map]; exact hb.pos, by rw [List.length_map]; exact hb.few, fun v h1 h2 h3 h4 => ?_⟩
    rw [List.length_map] at h4
    repeat (first | refine ⟨_, rfl, ?_⟩ | refine ⟨_, _, rfl, rfl, ?_⟩ | refine ⟨_, _, _, .inr rfl, rfl, rfl, ?_⟩ | refine ⟨_, _, _, .inl rfl, rfl, rfl, ?_⟩ | refine ⟨_, .inr rfl, ?_⟩ | refine ⟨_, .inl rfl, ?_⟩ | refine ⟨(by intro s z; cases z), ?_⟩ | refine ⟨Nat.le_of_ble_eq_true rfl, ?_⟩ | refine ⟨rfl, ?_⟩ | refine iteT ?_ | refine iteF ?_ | refine ⟨_, _, rfl, ?_⟩ | refine ⟨_, _, _, rfl, ?_⟩)
    exact h (v, b) ⟨h1, ⟨h2, h3⟩, hb, h4⟩
end
end L3
namespace L3
open PySem L2
open PySem.Spec
section
variable {P : Program} {w : World} {K : PySem.W.Frag} {mg : Str → Option Value} {base : Heap} {T : List (Addr × Str)}
abbrev s__law_growth : Stmt := topS 60
theorem sc__law_growth : FnScope ["_law_deck_here", "_law_kinds", "_law_full", "_law_way", "_law_kind", "_law_other"] ["_law_deck_here", "_law_kinds", "_law_full"] (defScope s__law_growth) := ⟨rfl, rfl, rfl, by decide +kernel, rfl, by decide +kernel, by decide +kernel⟩
theorem ok__law_growth {f : Addr} {fd : FuncData} (F : Fun K "_law_growth" "_law_growth" s__law_growth f fd) (N : Nms mg) (h__law_draw : Has P w K mg base "_law_draw" 1 ["_law_deck_here", "_law_many_here"] (spD T phi__law_draw)) (h__law_web : Has P w K mg base "_law_web" 3 ["_law_deck_here", "_law_n", "_law_kinds", "_law_many_here"] (spD T phi__law_web)) : FnOk P w K mg base CX0 4 f fd ["_law_deck_here", "_law_kinds", "_law_full"] (spD T phi__law_growth) := by
  refine fnD F sc__law_growth (fun ds QD h => ?_) (fun dk cdv A outer s H E hr => ⟨_, _, (by have hu := hr.units; exact qss_cons (qs_set (i := 3) sc__law_growth.nd (q_callD (i := 0) h__law_draw (hr.mono (by decide)) (qa_cons q_int qa_nil))) (qss_cons (qs_par (i := 4) (j := 5) rfl sc__law_growth.nd rfl rfl (by decide) rfl rfl (qa_cons (q_callD (i := 0) h__law_draw (hr.mono (by decide)) (qa_cons (q_var 1) qa_nil)) (qa_cons (q_callD (i := 0) h__law_draw (hr.mono (by decide)) (qa_cons (q_var 1) qa_nil)) qa_nil)) (by rfl)) (qss_cons (qs_if (qt_cmp op_eq l_eqI (by decide) (by decide) (q_var 3) q_int) (qss_one (qs_ret (q_tup (qa_cons (q_add q_int (q_callD (i := 0) h__law_draw (hr.mono (by decide)) (qa_cons q_int qa_nil))) (qa_cons (q_tup qa_nil) qa_nil))))) (qss_nil)) (qss_cons (qs_if (qt_cmp op_eq l_eqI (by decide) (by decide) (q_var 3) q_int) (qss_one (qs_ret (q_ifExp (qt_cmp op_eq l_eqI (by decide) (by decide) (q_callD (i := 0) h__law_draw (hr.mono (by decide)) (qa_cons q_int qa_nil)) q_int) (q_tup (qa_cons q_int (qa_cons (q_tup (qa_cons (q_tup (qa_cons q_int (qa_cons q_int (qa_cons (q_var 4) qa_nil)))) qa_nil)) qa_nil))) (q_tup (qa_cons q_int (qa_cons (q_tup (qa_cons (q_tup (qa_cons q_int (qa_cons q_int (qa_cons (q_var 4) qa_nil)))) qa_nil)) qa_nil)))))) (qss_nil)) (qss_cons (qs_if (qt_cmp op_eq l_eqI (by decide) (by decide) (q_var 3) q_int) (qss_one (qs_ret (q_tup (qa_cons q_int (qa_cons (q_cty call_tuple_of l_tuple rfl N.tuple bt_tuple (qa_cons (PDL.pde (ql_sorted hu rfl N.sorted (PDL.pde (ql_lst (qa_cons (q_tup (qa_cons q_int (qa_cons q_int (qa_cons (q_var 4) qa_nil)))) (qa_cons (q_tup (qa_cons q_int (qa_cons q_int (qa_cons (q_var 5) qa_nil)))) qa_nil)))))) qa_nil)) qa_nil))))) (qss_nil)) (qss_cons (qs_if (qt_cmp op_eq l_eqI (by decide) (by decide) (q_var 3) q_int) (qss_one (qs_ret (q_ifExp (qt_cmp op_eq l_eqI (by decide) (by decide) (q_callD (i := 0) h__law_draw (hr.mono (by decide)) (qa_cons q_int qa_nil)) q_int) (q_tup (qa_cons q_int (qa_cons (q_cty call_tuple_of l_tuple rfl N.tuple bt_tuple (qa_cons (PDL.pde (ql_sorted hu rfl N.sorted (PDL.pde (ql_lst (qa_cons (q_tup (qa_cons q_int (qa_cons q_int (qa_cons (q_var 4) qa_nil)))) (qa_cons (q_tup (qa_cons q_int (qa_cons q_int (qa_cons (q_var 5) qa_nil)))) qa_nil)))))) qa_nil)) qa_nil))) (q_tup (qa_cons q_int (qa_cons (q_tup (qa_cons (q_tup (qa_cons q_int (qa_cons q_int (qa_cons (q_var 4) qa_nil)))) (qa_cons (q_tup (qa_cons q_int (qa_cons q_int (qa_cons (q_var 5) qa_nil)))) qa_nil))) qa_nil)))))) (qss_nil)) (qss_cons (qs_if (qt_cmp op_eq l_eqI (by decide) (by decide) (q_var 3) q_int) (qss_one (qs_ret (q_tup (qa_cons q_int (qa_cons (q_cty call_tuple_of l_tuple rfl N.tuple bt_tuple (qa_cons (PDL.pde (ql_sorted hu rfl N.sorted (PDL.pde (ql_lst (qa_cons (q_tup (qa_cons q_int (qa_cons q_int (qa_cons (q_var 4) qa_nil)))) (qa_cons (q_tup (qa_cons q_int (qa_cons q_int (qa_cons (q_var 4) qa_nil)))) (qa_cons (q_tup (qa_cons q_int (qa_cons q_int (qa_cons (q_var 5) qa_nil)))) (qa_cons (q_tup (qa_cons q_int (qa_cons q_int (qa_cons (q_var 5) qa_nil)))) qa_nil)))))))) qa_nil)) qa_nil))))) (qss_nil)) (qss_cons (qs_if (PDW.pdt (qw_and (qt_val (q_var 2)) (qw_and1 (qt_cmp op_lt l_lt (by decide) (by decide) (q_var 3) q_int)))) (qss_one (qs_ret (q_callD (i := 0) h__law_web (hr.mono (by decide)) (qa_cons q_int (qa_cons (q_var 1) (qa_cons q_int qa_nil)))))) (qss_nil)) (qss_one (qs_ret (q_callD (i := 0) h__law_web (hr.mono (by decide)) (qa_cons (q_add q_int (q_callD (i := 0) h__law_draw (hr.mono (by decide)) (qa_cons q_int qa_nil))) (qa_cons (q_var 1) (qa_cons (q_callD (i := 0) h__law_draw (hr.mono (by decide)) (qa_cons q_int qa_nil)) qa_nil)))))))))))))), fun ds QD h => ?_⟩)
  · obtain ⟨k, full, rfl, _⟩ := h; rfl
  · obtain ⟨k, full, rfl, h1, h2, h⟩ := h
    have mk : ∀ (n : Nat) (ts : List Tie), 2 ≤ n → n ≤ 7 → (∀ t ∈ ts, t.1 < n ∧ t.2.1 < n ∧ t.1 ≠ t.2.1 ∧ t.2.2 < k) → ts.length ≤ 10 → Srt ts → QD (eWeb (n, ts)) := fun n ts a b c d e => h (n, ts) ⟨by show 1 ≤ n; omega, by show n ≤ 400; omega, fun t ht => ⟨(c t ht).1, (c t ht).2.1, (c t ht).2.2.1, by have := (c t ht).2.2.2; omega⟩, e, by show ts.length ≤ 600; omega⟩ a fun t ht => (c t ht).2.2.2
    have mkS : ∀ (n : Nat) (ts : List Tie), 2 ≤ n → n ≤ 7 → (∀ t ∈ ts, t.1 < n ∧ t.2.1 < n ∧ t.1 ≠ t.2.1 ∧ t.2.2 < k) → ts.length ≤ 10 → QD (eWeb (n, sortE eTie ts)) := fun n ts a b c d => mk n _ a b (fun t ht => c t (sortE_mem.mp ht)) (by rw [sortE_len]; exact d) (sortE_pair ts)
    repeat (first | refine ⟨_, rfl, ?_⟩ | refine ⟨_, _, rfl, rfl, ?_⟩ | refine ⟨_, _, _, .inr rfl, rfl, rfl, ?_⟩ | refine ⟨_, _, _, .inl rfl, rfl, rfl, ?_⟩ | refine ⟨_, .inr rfl, ?_⟩ | refine ⟨_, .inl rfl, ?_⟩ | refine ⟨(by intro s z; cases z), ?_⟩ | refine ⟨Nat.le_of_ble_eq_true rfl, ?_⟩ | refine ⟨rfl, ?_⟩ | refine iteT ?_ | refine iteF ?_ | refine ⟨_, _, rfl, ?_⟩ | refine ⟨_, _, _, rfl, ?_⟩)
    intro way hway
    repeat (first | refine ⟨_, rfl, ?_⟩ | refine ⟨_, _, rfl, rfl, ?_⟩ | refine ⟨_, _, _, .inr rfl, rfl, rfl, ?_⟩ | refine ⟨_, _, _, .inl rfl, rfl, rfl, ?_⟩ | refine ⟨_, .inr rfl, ?_⟩ | refine ⟨_, .inl rfl, ?_⟩ | refine ⟨(by intro s z; cases z), ?_⟩ | refine ⟨Nat.le_of_ble_eq_true rfl, ?_⟩ | refine ⟨rfl, ?_⟩ | refine iteT ?_ | refine iteF ?_ | refine ⟨_, _, rfl, ?_⟩ | refine ⟨_, _, _, rfl, ?_⟩)
    refine ⟨by omega, by omega, fun kd1 hk1 => ?_⟩
    repeat (first | refine ⟨_, rfl, ?_⟩ | refine ⟨_, _, rfl, rfl, ?_⟩ | refine ⟨_, _, _, .inr rfl, rfl, rfl, ?_⟩ | refine ⟨_, _, _, .inl rfl, rfl, rfl, ?_⟩ | refine ⟨_, .inr rfl, ?_⟩ | refine ⟨_, .inl rfl, ?_⟩ | refine ⟨(by intro s z; cases z), ?_⟩ | refine ⟨Nat.le_of_ble_eq_true rfl, ?_⟩ | refine ⟨rfl, ?_⟩ | refine iteT ?_ | refine iteF ?_ | refine ⟨_, _, rfl, ?_⟩ | refine ⟨_, _, _, rfl, ?_⟩)
    refine ⟨by omega, by omega, fun kd2 hk2 => ?_⟩
    repeat (first | refine ⟨_, rfl, ?_⟩ | refine ⟨_, _, rfl, rfl, ?_⟩ | refine ⟨_, _, _, .inr rfl, rfl, rfl, ?_⟩ | refine ⟨_, _, _, .inl rfl, rfl, rfl, ?_⟩ | refine ⟨_, .inr rfl, ?_⟩ | refine ⟨_, .inl rfl, ?_⟩ | refine ⟨(by intro s z; cases z), ?_⟩ | refine ⟨Nat.le_of_ble_eq_true rfl, ?_⟩ | refine ⟨rfl, ?_⟩ | refine iteT ?_ | refine iteF ?_ | refine ⟨_, _, rfl, ?_⟩ | refine ⟨_, _, _, rfl, ?_⟩)
    by_cases w0 : way = 0
    · refine iteB (decide_eq_true (by omega)) ?_
      repeat (first | refine ⟨_, rfl, ?_⟩ | refine ⟨_, _, rfl, rfl, ?_⟩ | refine ⟨_, _, _, .inr rfl, rfl, rfl, ?_⟩ | refine ⟨_, _, _, .inl rfl, rfl, rfl, ?_⟩ | refine ⟨_, .inr rfl, ?_⟩ | refine ⟨_, .inl rfl, ?_⟩ | refine ⟨(by intro s z; cases z), ?_⟩ | refine ⟨Nat.le_of_ble_eq_true rfl, ?_⟩ | refine ⟨rfl, ?_⟩ | refine iteT ?_ | refine iteF ?_ | refine ⟨_, _, rfl, ?_⟩ | refine ⟨_, _, _, rfl, ?_⟩)
      intro v hv
      have hv2 : v < 2 := hv
      repeat (first | refine ⟨_, rfl, ?_⟩ | refine ⟨_, _, rfl, rfl, ?_⟩ | refine ⟨_, _, _, .inr rfl, rfl, rfl, ?_⟩ | refine ⟨_, _, _, .inl rfl, rfl, rfl, ?_⟩ | refine ⟨_, .inr rfl, ?_⟩ | refine ⟨_, .inl rfl, ?_⟩ | refine ⟨(by intro s z; cases z), ?_⟩ | refine ⟨Nat.le_of_ble_eq_true rfl, ?_⟩ | refine ⟨rfl, ?_⟩ | refine iteT ?_ | refine iteF ?_ | refine ⟨_, _, rfl, ?_⟩ | refine ⟨_, _, _, rfl, ?_⟩)
      exact byEq (Q := QD) (mk (2 + v) [] (by omega) (by omega) (fun t ht => nomatch ht) (by simp) List.Pairwise.nil) (by simp [eWeb, eTies, eN])
    refine iteN (decide_eq_false (by omega)) ?_
    repeat (first | refine ⟨_, rfl, ?_⟩ | refine ⟨_, _, rfl, rfl, ?_⟩ | refine ⟨_, _, _, .inr rfl, rfl, rfl, ?_⟩ | refine ⟨_, _, _, .inl rfl, rfl, rfl, ?_⟩ | refine ⟨_, .inr rfl, ?_⟩ | refine ⟨_, .inl rfl, ?_⟩ | refine ⟨(by intro s z; cases z), ?_⟩ | refine ⟨Nat.le_of_ble_eq_true rfl, ?_⟩ | refine ⟨rfl, ?_⟩ | refine iteT ?_ | refine iteF ?_ | refine ⟨_, _, rfl, ?_⟩ | refine ⟨_, _, _, rfl, ?_⟩)
    by_cases w1 : way = 1
    · refine iteB (decide_eq_true (by omega)) ?_
      repeat (first | refine ⟨_, rfl, ?_⟩ | refine ⟨_, _, rfl, rfl, ?_⟩ | refine ⟨_, _, _, .inr rfl, rfl, rfl, ?_⟩ | refine ⟨_, _, _, .inl rfl, rfl, rfl, ?_⟩ | refine ⟨_, .inr rfl, ?_⟩ | refine ⟨_, .inl rfl, ?_⟩ | refine ⟨(by intro s z; cases z), ?_⟩ | refine ⟨Nat.le_of_ble_eq_true rfl, ?_⟩ | refine ⟨rfl, ?_⟩ | refine iteT ?_ | refine iteF ?_ | refine ⟨_, _, rfl, ?_⟩ | refine ⟨_, _, _, rfl, ?_⟩)
      intro v hv
      repeat (first | refine ⟨_, rfl, ?_⟩ | refine ⟨_, _, rfl, rfl, ?_⟩ | refine ⟨_, _, _, .inr rfl, rfl, rfl, ?_⟩ | refine ⟨_, _, _, .inl rfl, rfl, rfl, ?_⟩ | refine ⟨_, .inr rfl, ?_⟩ | refine ⟨_, .inl rfl, ?_⟩ | refine ⟨(by intro s z; cases z), ?_⟩ | refine ⟨Nat.le_of_ble_eq_true rfl, ?_⟩ | refine ⟨rfl, ?_⟩ | refine iteT ?_ | refine iteF ?_ | refine ⟨_, _, rfl, ?_⟩ | refine ⟨_, _, _, rfl, ?_⟩)
      by_cases v0 : v = 0
      · refine iteB (decide_eq_true (by omega)) ?_
        repeat (first | refine ⟨_, rfl, ?_⟩ | refine ⟨_, _, rfl, rfl, ?_⟩ | refine ⟨_, _, _, .inr rfl, rfl, rfl, ?_⟩ | refine ⟨_, _, _, .inl rfl, rfl, rfl, ?_⟩ | refine ⟨_, .inr rfl, ?_⟩ | refine ⟨_, .inl rfl, ?_⟩ | refine ⟨(by intro s z; cases z), ?_⟩ | refine ⟨Nat.le_of_ble_eq_true rfl, ?_⟩ | refine ⟨rfl, ?_⟩ | refine iteT ?_ | refine iteF ?_ | refine ⟨_, _, rfl, ?_⟩ | refine ⟨_, _, _, rfl, ?_⟩)
        exact mk 2 [(0, 1, kd1)] (by decide) (by decide) (fun t ht => by simp at ht; subst ht; simp; exact hk1) (by simp) (List.pairwise_singleton _ _)
      · refine iteN (decide_eq_false (by omega)) ?_
        repeat (first | refine ⟨_, rfl, ?_⟩ | refine ⟨_, _, rfl, rfl, ?_⟩ | refine ⟨_, _, _, .inr rfl, rfl, rfl, ?_⟩ | refine ⟨_, _, _, .inl rfl, rfl, rfl, ?_⟩ | refine ⟨_, .inr rfl, ?_⟩ | refine ⟨_, .inl rfl, ?_⟩ | refine ⟨(by intro s z; cases z), ?_⟩ | refine ⟨Nat.le_of_ble_eq_true rfl, ?_⟩ | refine ⟨rfl, ?_⟩ | refine iteT ?_ | refine iteF ?_ | refine ⟨_, _, rfl, ?_⟩ | refine ⟨_, _, _, rfl, ?_⟩)
        exact mk 2 [(1, 0, kd1)] (by decide) (by decide) (fun t ht => by simp at ht; subst ht; simp; exact hk1) (by simp) (List.pairwise_singleton _ _)
    refine iteN (decide_eq_false (by omega)) ?_
    repeat (first | refine ⟨_, rfl, ?_⟩ | refine ⟨_, _, rfl, rfl, ?_⟩ | refine ⟨_, _, _, .inr rfl, rfl, rfl, ?_⟩ | refine ⟨_, _, _, .inl rfl, rfl, rfl, ?_⟩ | refine ⟨_, .inr rfl, ?_⟩ | refine ⟨_, .inl rfl, ?_⟩ | refine ⟨(by intro s z; cases z), ?_⟩ | refine ⟨Nat.le_of_ble_eq_true rfl, ?_⟩ | refine ⟨rfl, ?_⟩ | refine iteT ?_ | refine iteF ?_ | refine ⟨_, _, rfl, ?_⟩ | refine ⟨_, _, _, rfl, ?_⟩)
    by_cases w2 : way = 2
    · refine iteB (decide_eq_true (by omega)) ?_
      repeat (first | refine ⟨_, rfl, ?_⟩ | refine ⟨_, _, rfl, rfl, ?_⟩ | refine ⟨_, _, _, .inr rfl, rfl, rfl, ?_⟩ | refine ⟨_, _, _, .inl rfl, rfl, rfl, ?_⟩ | refine ⟨_, .inr rfl, ?_⟩ | refine ⟨_, .inl rfl, ?_⟩ | refine ⟨(by intro s z; cases z), ?_⟩ | refine ⟨Nat.le_of_ble_eq_true rfl, ?_⟩ | refine ⟨rfl, ?_⟩ | refine iteT ?_ | refine iteF ?_ | refine ⟨_, _, rfl, ?_⟩ | refine ⟨_, _, _, rfl, ?_⟩)
      refine ⟨sortOk (xs := [(0, 1, kd1), (0, 1, kd2)]) enc_tie (fun b => ⟨_, _, rfl⟩) (by simp), ?_⟩
      have e := srtD_map (e := eTie) [(0, 1, kd1), (0, 1, kd2)]
      repeat (first | refine ⟨_, rfl, ?_⟩ | refine ⟨_, _, rfl, rfl, ?_⟩ | refine ⟨_, _, _, .inr rfl, rfl, rfl, ?_⟩ | refine ⟨_, _, _, .inl rfl, rfl, rfl, ?_⟩ | refine ⟨_, .inr rfl, ?_⟩ | refine ⟨_, .inl rfl, ?_⟩ | refine ⟨(by intro s z; cases z), ?_⟩ | refine ⟨Nat.le_of_ble_eq_true rfl, ?_⟩ | refine ⟨rfl, ?_⟩ | refine iteT ?_ | refine iteF ?_ | refine ⟨_, _, rfl, ?_⟩ | refine ⟨_, _, _, rfl, ?_⟩)
      refine byEq (Q := QD) (mkS 2 [(0, 1, kd1), (0, 1, kd2)] (by decide) (by decide) (fun t ht => by simp at ht; rcases ht with e | e <;> subst e <;> simp <;> assumption) (by simp)) ?_
      show PyData.tuple [_, .tuple ((sortE eTie [(0, 1, kd1), (0, 1, kd2)]).map eTie)] = _
      rw [← e]
      rfl
    refine iteN (decide_eq_false (by omega)) ?_
    repeat (first | refine ⟨_, rfl, ?_⟩ | refine ⟨_, _, rfl, rfl, ?_⟩ | refine ⟨_, _, _, .inr rfl, rfl, rfl, ?_⟩ | refine ⟨_, _, _, .inl rfl, rfl, rfl, ?_⟩ | refine ⟨_, .inr rfl, ?_⟩ | refine ⟨_, .inl rfl, ?_⟩ | refine ⟨(by intro s z; cases z), ?_⟩ | refine ⟨Nat.le_of_ble_eq_true rfl, ?_⟩ | refine ⟨rfl, ?_⟩ | refine iteT ?_ | refine iteF ?_ | refine ⟨_, _, rfl, ?_⟩ | refine ⟨_, _, _, rfl, ?_⟩)
    by_cases w3 : way = 3
    · refine iteB (decide_eq_true (by omega)) ?_
      repeat (first | refine ⟨_, rfl, ?_⟩ | refine ⟨_, _, rfl, rfl, ?_⟩ | refine ⟨_, _, _, .inr rfl, rfl, rfl, ?_⟩ | refine ⟨_, _, _, .inl rfl, rfl, rfl, ?_⟩ | refine ⟨_, .inr rfl, ?_⟩ | refine ⟨_, .inl rfl, ?_⟩ | refine ⟨(by intro s z; cases z), ?_⟩ | refine ⟨Nat.le_of_ble_eq_true rfl, ?_⟩ | refine ⟨rfl, ?_⟩ | refine iteT ?_ | refine iteF ?_ | refine ⟨_, _, rfl, ?_⟩ | refine ⟨_, _, _, rfl, ?_⟩)
      intro v hv
      repeat (first | refine ⟨_, rfl, ?_⟩ | refine ⟨_, _, rfl, rfl, ?_⟩ | refine ⟨_, _, _, .inr rfl, rfl, rfl, ?_⟩ | refine ⟨_, _, _, .inl rfl, rfl, rfl, ?_⟩ | refine ⟨_, .inr rfl, ?_⟩ | refine ⟨_, .inl rfl, ?_⟩ | refine ⟨(by intro s z; cases z), ?_⟩ | refine ⟨Nat.le_of_ble_eq_true rfl, ?_⟩ | refine ⟨rfl, ?_⟩ | refine iteT ?_ | refine iteF ?_ | refine ⟨_, _, rfl, ?_⟩ | refine ⟨_, _, _, rfl, ?_⟩)
      by_cases v0 : v = 0
      · refine iteB (decide_eq_true (by omega)) ?_
        repeat (first | refine ⟨_, rfl, ?_⟩ | refine ⟨_, _, rfl, rfl, ?_⟩ | refine ⟨_, _, _, .inr rfl, rfl, rfl, ?_⟩ | refine ⟨_, _, _, .inl rfl, rfl, rfl, ?_⟩ | refine ⟨_, .inr rfl, ?_⟩ | refine ⟨_, .inl rfl, ?_⟩ | refine ⟨(by intro s z; cases z), ?_⟩ | refine ⟨Nat.le_of_ble_eq_true rfl, ?_⟩ | refine ⟨rfl, ?_⟩ | refine iteT ?_ | refine iteF ?_ | refine ⟨_, _, rfl, ?_⟩ | refine ⟨_, _, _, rfl, ?_⟩)
        refine ⟨sortOk (xs := [(0, 2, kd1), (2, 1, kd2)]) enc_tie (fun b => ⟨_, _, rfl⟩) (by simp), ?_⟩
        have e := srtD_map (e := eTie) [(0, 2, kd1), (2, 1, kd2)]
        repeat (first | refine ⟨_, rfl, ?_⟩ | refine ⟨_, _, rfl, rfl, ?_⟩ | refine ⟨_, _, _, .inr rfl, rfl, rfl, ?_⟩ | refine ⟨_, _, _, .inl rfl, rfl, rfl, ?_⟩ | refine ⟨_, .inr rfl, ?_⟩ | refine ⟨_, .inl rfl, ?_⟩ | refine ⟨(by intro s z; cases z), ?_⟩ | refine ⟨Nat.le_of_ble_eq_true rfl, ?_⟩ | refine ⟨rfl, ?_⟩ | refine iteT ?_ | refine iteF ?_ | refine ⟨_, _, rfl, ?_⟩ | refine ⟨_, _, _, rfl, ?_⟩)
        refine byEq (Q := QD) (mkS 3 [(0, 2, kd1), (2, 1, kd2)] (by decide) (by decide) (fun t ht => by simp at ht; rcases ht with e | e <;> subst e <;> simp <;> assumption) (by simp)) ?_
        show PyData.tuple [_, .tuple ((sortE eTie [(0, 2, kd1), (2, 1, kd2)]).map eTie)] = _
        rw [← e]
        rfl
      · refine iteN (decide_eq_false (by omega)) ?_
        repeat (first | refine ⟨_, rfl, ?_⟩ | refine ⟨_, _, rfl, rfl, ?_⟩ | refine ⟨_, _, _, .inr rfl, rfl, rfl, ?_⟩ | refine ⟨_, _, _, .inl rfl, rfl, rfl, ?_⟩ | refine ⟨_, .inr rfl, ?_⟩ | refine ⟨_, .inl rfl, ?_⟩ | refine ⟨(by intro s z; cases z), ?_⟩ | refine ⟨Nat.le_of_ble_eq_true rfl, ?_⟩ | refine ⟨rfl, ?_⟩ | refine iteT ?_ | refine iteF ?_ | refine ⟨_, _, rfl, ?_⟩ | refine ⟨_, _, _, rfl, ?_⟩)
        exact mk 3 [(1, 2, kd1), (2, 0, kd2)] (by decide) (by decide) (fun t ht => by simp at ht; rcases ht with e | e <;> subst e <;> simp <;> assumption) (by simp) (by
          unfold Srt
          refine List.Pairwise.cons (fun t ht => ?_) (List.pairwise_singleton _ _)
          rw [List.mem_singleton.mp ht]
          exact leTie_lt (s := (1, 2, kd1)) (t := (2, 0, kd2)) (by show 1 < 2; decide))
    refine iteN (decide_eq_false (by omega)) ?_
    repeat (first | refine ⟨_, rfl, ?_⟩ | refine ⟨_, _, rfl, rfl, ?_⟩ | refine ⟨_, _, _, .inr rfl, rfl, rfl, ?_⟩ | refine ⟨_, _, _, .inl rfl, rfl, rfl, ?_⟩ | refine ⟨_, .inr rfl, ?_⟩ | refine ⟨_, .inl rfl, ?_⟩ | refine ⟨(by intro s z; cases z), ?_⟩ | refine ⟨Nat.le_of_ble_eq_true rfl, ?_⟩ | refine ⟨rfl, ?_⟩ | refine iteT ?_ | refine iteF ?_ | refine ⟨_, _, rfl, ?_⟩ | refine ⟨_, _, _, rfl, ?_⟩)
    by_cases w4 : way = 4
    · refine iteB (decide_eq_true (by omega)) ?_
      repeat (first | refine ⟨_, rfl, ?_⟩ | refine ⟨_, _, rfl, rfl, ?_⟩ | refine ⟨_, _, _, .inr rfl, rfl, rfl, ?_⟩ | refine ⟨_, _, _, .inl rfl, rfl, rfl, ?_⟩ | refine ⟨_, .inr rfl, ?_⟩ | refine ⟨_, .inl rfl, ?_⟩ | refine ⟨(by intro s z; cases z), ?_⟩ | refine ⟨Nat.le_of_ble_eq_true rfl, ?_⟩ | refine ⟨rfl, ?_⟩ | refine iteT ?_ | refine iteF ?_ | refine ⟨_, _, rfl, ?_⟩ | refine ⟨_, _, _, rfl, ?_⟩)
      refine ⟨sortOk (xs := [(0, 2, kd1), (3, 1, kd1), (2, 1, kd2), (0, 3, kd2)]) enc_tie (fun b => ⟨_, _, rfl⟩) (by simp), ?_⟩
      have e := srtD_map (e := eTie) [(0, 2, kd1), (3, 1, kd1), (2, 1, kd2), (0, 3, kd2)]
      repeat (first | refine ⟨_, rfl, ?_⟩ | refine ⟨_, _, rfl, rfl, ?_⟩ | refine ⟨_, _, _, .inr rfl, rfl, rfl, ?_⟩ | refine ⟨_, _, _, .inl rfl, rfl, rfl, ?_⟩ | refine ⟨_, .inr rfl, ?_⟩ | refine ⟨_, .inl rfl, ?_⟩ | refine ⟨(by intro s z; cases z), ?_⟩ | refine ⟨Nat.le_of_ble_eq_true rfl, ?_⟩ | refine ⟨rfl, ?_⟩ | refine iteT ?_ | refine iteF ?_ | refine ⟨_, _, rfl, ?_⟩ | refine ⟨_, _, _, rfl, ?_⟩)
      refine byEq (Q := QD) (mkS 4 [(0, 2, kd1), (3, 1, kd1), (2, 1, kd2), (0, 3, kd2)] (by decide) (by decide) (fun t ht => by simp at ht; rcases ht with e | e | e | e <;> subst e <;> simp <;> assumption) (by simp)) ?_
      show PyData.tuple [_, .tuple ((sortE eTie [(0, 2, kd1), (3, 1, kd1), (2, 1, kd2), (0, 3, kd2)]).map eTie)] = _
      rw [← e]
      rfl
    refine iteN (decide_eq_false (by omega)) ?_
    repeat (first | refine ⟨_, rfl, ?_⟩ | refine ⟨_, _, rfl, rfl, ?_⟩ | refine ⟨_, _, _, .inr rfl, rfl, rfl, ?_⟩ | refine ⟨_, _, _, .inl rfl, rfl, rfl, ?_⟩ | refine ⟨_, .inr rfl, ?_⟩ | refine ⟨_, .inl rfl, ?_⟩ | refine ⟨(by intro s z; cases z), ?_⟩ | refine ⟨Nat.le_of_ble_eq_true rfl, ?_⟩ | refine ⟨rfl, ?_⟩ | refine iteT ?_ | refine iteF ?_ | refine ⟨_, _, rfl, ?_⟩ | refine ⟨_, _, _, rfl, ?_⟩)
    have last : ∀ (n m : Nat), 2 ≤ n → ∀ v : Web, WebOk v → v.1 = n → v.2.length ≤ m → Below v k → QD (eWeb v) := fun n m hn v a b c d => h v a (by omega) d
    cases full with
    | true =>
      repeat (first | refine ⟨_, rfl, ?_⟩ | refine ⟨_, _, rfl, rfl, ?_⟩ | refine ⟨_, _, _, .inr rfl, rfl, rfl, ?_⟩ | refine ⟨_, _, _, .inl rfl, rfl, rfl, ?_⟩ | refine ⟨_, .inr rfl, ?_⟩ | refine ⟨_, .inl rfl, ?_⟩ | refine ⟨(by intro s z; cases z), ?_⟩ | refine ⟨Nat.le_of_ble_eq_true rfl, ?_⟩ | refine ⟨rfl, ?_⟩ | refine iteT ?_ | refine iteF ?_ | refine ⟨_, _, rfl, ?_⟩ | refine ⟨_, _, _, rfl, ?_⟩)
      by_cases w7 : way < 7
      · refine iteB (decide_eq_true (by omega)) ?_
        repeat (first | refine ⟨_, rfl, ?_⟩ | refine ⟨_, _, rfl, rfl, ?_⟩ | refine ⟨_, _, _, .inr rfl, rfl, rfl, ?_⟩ | refine ⟨_, _, _, .inl rfl, rfl, rfl, ?_⟩ | refine ⟨_, .inr rfl, ?_⟩ | refine ⟨_, .inl rfl, ?_⟩ | refine ⟨(by intro s z; cases z), ?_⟩ | refine ⟨Nat.le_of_ble_eq_true rfl, ?_⟩ | refine ⟨rfl, ?_⟩ | refine iteT ?_ | refine iteF ?_ | refine ⟨_, _, rfl, ?_⟩ | refine ⟨_, _, _, rfl, ?_⟩)
        exact ⟨h1, h2, Nat.le_of_ble_eq_true rfl, last 6 9 (by decide)⟩
      · refine iteN (decide_eq_false (by omega)) ?_
        repeat (first | refine ⟨_, rfl, ?_⟩ | refine ⟨_, _, rfl, rfl, ?_⟩ | refine ⟨_, _, _, .inr rfl, rfl, rfl, ?_⟩ | refine ⟨_, _, _, .inl rfl, rfl, rfl, ?_⟩ | refine ⟨_, .inr rfl, ?_⟩ | refine ⟨_, .inl rfl, ?_⟩ | refine ⟨(by intro s z; cases z), ?_⟩ | refine ⟨Nat.le_of_ble_eq_true rfl, ?_⟩ | refine ⟨rfl, ?_⟩ | refine iteT ?_ | refine iteF ?_ | refine ⟨_, _, rfl, ?_⟩ | refine ⟨_, _, _, rfl, ?_⟩)
        intro v hv
        have hv4 : v < 4 := hv
        repeat (first | refine ⟨_, rfl, ?_⟩ | refine ⟨_, _, rfl, rfl, ?_⟩ | refine ⟨_, _, _, .inr rfl, rfl, rfl, ?_⟩ | refine ⟨_, _, _, .inl rfl, rfl, rfl, ?_⟩ | refine ⟨_, .inr rfl, ?_⟩ | refine ⟨_, .inl rfl, ?_⟩ | refine ⟨(by intro s z; cases z), ?_⟩ | refine ⟨Nat.le_of_ble_eq_true rfl, ?_⟩ | refine ⟨rfl, ?_⟩ | refine iteT ?_ | refine iteF ?_ | refine ⟨_, _, rfl, ?_⟩ | refine ⟨_, _, _, rfl, ?_⟩)
        intro m hm
        have hm6 : m < 6 := hm
        repeat (first | refine ⟨_, rfl, ?_⟩ | refine ⟨_, _, rfl, rfl, ?_⟩ | refine ⟨_, _, _, .inr rfl, rfl, rfl, ?_⟩ | refine ⟨_, _, _, .inl rfl, rfl, rfl, ?_⟩ | refine ⟨_, .inr rfl, ?_⟩ | refine ⟨_, .inl rfl, ?_⟩ | refine ⟨(by intro s z; cases z), ?_⟩ | refine ⟨Nat.le_of_ble_eq_true rfl, ?_⟩ | refine ⟨rfl, ?_⟩ | refine iteT ?_ | refine iteF ?_ | refine ⟨_, _, rfl, ?_⟩ | refine ⟨_, _, _, rfl, ?_⟩)
        exact ⟨by show 1 ≤ 2 + v; omega, by show 2 + v ≤ 7; omega, h1, h2, by omega, last (2 + v) m (by omega)⟩
    | false =>
      repeat (first | refine ⟨_, rfl, ?_⟩ | refine ⟨_, _, rfl, rfl, ?_⟩ | refine ⟨_, _, _, .inr rfl, rfl, rfl, ?_⟩ | refine ⟨_, _, _, .inl rfl, rfl, rfl, ?_⟩ | refine ⟨_, .inr rfl, ?_⟩ | refine ⟨_, .inl rfl, ?_⟩ | refine ⟨(by intro s z; cases z), ?_⟩ | refine ⟨Nat.le_of_ble_eq_true rfl, ?_⟩ | refine ⟨rfl, ?_⟩ | refine iteT ?_ | refine iteF ?_ | refine ⟨_, _, rfl, ?_⟩ | refine ⟨_, _, _, rfl, ?_⟩)
      intro v hv
      have hv4 : v < 4 := hv
      repeat (first | refine ⟨_, rfl, ?_⟩ | refine ⟨_, _, rfl, rfl, ?_⟩ | refine ⟨_, _, _, .inr rfl, rfl, rfl, ?_⟩ | refine ⟨_, _, _, .inl rfl, rfl, rfl, ?_⟩ | refine ⟨_, .inr rfl, ?_⟩ | refine ⟨_, .inl rfl, ?_⟩ | refine ⟨(by intro s z; cases z), ?_⟩ | refine ⟨Nat.le_of_ble_eq_true rfl, ?_⟩ | refine ⟨rfl, ?_⟩ | refine iteT ?_ | refine iteF ?_ | refine ⟨_, _, rfl, ?_⟩ | refine ⟨_, _, _, rfl, ?_⟩)
      intro m hm
      have hm6 : m < 6 := hm
      repeat (first | refine ⟨_, rfl, ?_⟩ | refine ⟨_, _, rfl, rfl, ?_⟩ | refine ⟨_, _, _, .inr rfl, rfl, rfl, ?_⟩ | refine ⟨_, _, _, .inl rfl, rfl, rfl, ?_⟩ | refine ⟨_, .inr rfl, ?_⟩ | refine ⟨_, .inl rfl, ?_⟩ | refine ⟨(by intro s z; cases z), ?_⟩ | refine ⟨Nat.le_of_ble_eq_true rfl, ?_⟩ | refine ⟨rfl, ?_⟩ | refine iteT ?_ | refine iteF ?_ | refine ⟨_, _, rfl, ?_⟩ | refine ⟨_, _, _, rfl, ?_⟩)
      exact ⟨by show 1 ≤ 2 + v; omega, by show 2 + v ≤ 7; omega, h1, h2, by omega, last (2 + v) m (by omega)⟩
end
end L3
namespace L3
open PySem L2
open PySem.Spec
abbrev deckKv (p2 : Addr) (mx dr : Int) : List (Key × V) := [(Sum.inr "cells", .ref p2), (Sum.inr "mixed", .int mx), (Sum.inr "draws", .int dr)]
structure Deck3 (T : List (Addr × Str)) (p : Addr × Addr) (H0 : Hp) (cs : List Int) (mx dr : Int) (H : Hp) : Prop where
  go : Go ⟨T, some p⟩ H0 H
  glob : Glob ⟨T, some p⟩ H
  len : cs.length ≤ 63
  ne : p.1 ≠ p.2
  kv : H p.1 = some (.dK (deckKv p.2 mx dr))
  ls : H p.2 = some (.lst (cs.map V.int))
section
variable {T : List (Addr × Str)} {p : Addr × Addr} {H0 H : Hp} {cs : List Int} {mx dr : Int}
theorem Deck3.first (gl : Glob ⟨T, some p⟩ H) : ∃ cs mx dr, Deck3 T p H cs mx dr H := by
  obtain ⟨cs, mx, dr, hl, ne, k1, k2⟩ := gl.deck p rfl
  exact ⟨cs, mx, dr, GoN.refl, gl, hl, ne, k1, k2⟩
theorem Deck3.put (D : Deck3 T p H0 cs mx dr H) (z : Int) : Deck3 T p H0 cs mx z (upd H p.1 (.dK (deckKv p.2 mx z))) := by
  have keep : ∀ b o, H b = some o → b ≠ p.1 → upd H p.1 (.dK (deckKv p.2 mx z)) b = some o := fun b o e n => by rw [upd_ne n]; exact e
  refine ⟨fun b o e w => ?_, ⟨tabs_but D.glob.tabs fun b o e _ hd => keep b o e fun q => hd (deckKv p.2 mx dr) (by subst q; exact Option.some.inj (e.symm.trans D.kv)), fun q hq => ?_⟩, D.len, D.ne, upd_same, keep _ _ D.ls (Ne.symm D.ne)⟩
  · rw [upd_ne fun q => w ⟨p, rfl, .inl q⟩]
    exact D.go b o e w
  · cases hq
    exact ⟨cs, mx, z, D.len, D.ne, upd_same, keep _ _ D.ls (Ne.symm D.ne)⟩
theorem Deck3.cells (D : Deck3 T p H0 cs mx dr H) {cs' : List Int} (hl : cs'.length ≤ 63) : Deck3 T p H0 cs' mx dr (upd H p.2 (.lst (cs'.map V.int))) := by
  have keep : ∀ b o, H b = some o → b ≠ p.2 → upd H p.2 (.lst (cs'.map V.int)) b = some o := fun b o e n => by rw [upd_ne n]; exact e
  refine ⟨fun b o e w => ?_, ⟨tabs_but D.glob.tabs fun b o e hd _ => keep b o e fun q => hd (cs.map V.int) (by subst q; exact Option.some.inj (e.symm.trans D.ls)), fun q hq => ?_⟩, hl, D.ne, keep _ _ D.kv D.ne, upd_same⟩
  · rw [upd_ne fun q => w ⟨p, rfl, .inr q⟩]
    exact D.go b o e w
  · cases hq
    exact ⟨cs', mx, dr, hl, D.ne, keep _ _ D.kv D.ne, upd_same⟩
theorem Deck3.laid (D : Deck3 T p H0 cs mx dr H) {a : Addr} {o : HO} (h : H a = none) : Deck3 T p H0 cs mx dr (upd H a o) :=
  ⟨D.go.trans (GoN.laid h), D.glob.laid h, D.len, D.ne, by rw [upd_ne (ne_of_none D.kv h)]; exact D.kv, by rw [upd_ne (ne_of_none D.ls h)]; exact D.ls⟩
theorem Deck3.gCells (D : Deck3 T p H0 cs mx dr H) : DGet H p.1 (.str "cells") (some (.ref p.2)) := DGet.k (k := Sum.inr "cells") D.kv
theorem Deck3.gMixed (D : Deck3 T p H0 cs mx dr H) : DGet H p.1 (.str "mixed") (some (.int mx)) := DGet.k (k := Sum.inr "mixed") D.kv
theorem Deck3.gDraws (D : Deck3 T p H0 cs mx dr H) : DGet H p.1 (.str "draws") (some (.int dr)) := DGet.k (k := Sum.inr "draws") D.kv
theorem Deck3.pDraws (D : Deck3 T p H0 cs mx dr H) (z : Int) : DPut H p.1 (.str "draws") (.int z) (upd H p.1 (.dK (deckKv p.2 mx z))) := DPut.k (k := Sum.inr "draws") (v := .int z) D.kv (show 3 < sizeLine by rw [sizeLine_eq]; decide)
end
abbrev rInt1 : List V → Hp → VK → Prop := fun xs H Q => (∃ i, xs = [V.int i] ∧ Q (V.int i) H) ∨ ∃ k, xs = [V.bl k] ∧ Q (V.int (if k = true then 1 else 0)) H
abbrev drawTail : TS := tSeq (tAsg (tOp (rI (fun _ j => 0 < j) fun i j => V.int (i % j)) (tCB rInt1 (tCons (tOp (rI0 fun i j => V.int (i + j)) (tOp (rI CMul fun i j => V.int (i * j)) (tVar 2) (tC (V.int 39373))) (tC (V.int 83))) tNil)) (tC (V.int 2147483647))) (gName 2))
  (tSeq (tAsg (tOp (rI (fun _ j => 0 < j) fun i j => V.int (i % j)) (tCB rInt1 (tCons (tOp (rI0 fun i j => V.int (i + j)) (tOp (rI0 fun i j => V.int (i + j)) (tOp (rI CMul fun i j => V.int (i * j)) (tVar 2) (tVar 2)) (tOp (rI CMul fun i j => V.int (i * j)) (tC (V.int 52713)) (tDGet (tVar 0) (tC (V.str "draws"))))) (tC (V.int 109))) tNil)) (tC (V.int 2147483587))) (gName 2))
  (tSeq (tAsg (tOp (rI (fun _ j => 0 < j) fun i j => V.int (i % j)) (tCB rInt1 (tCons (tOp (rI CMul fun i j => V.int (i * j)) (tVar 2) (tC (V.int 40692))) tNil)) (tC (V.int 2147483563))) (gName 2))
  (tRet (tOp (rI (fun _ j => 0 < j) fun i j => V.int (i % j)) (tCB rInt1 (tCons (tOp (rI CDiv fun i j => V.int (i / j)) (tVar 2) (tC (V.int 64))) tNil)) (tVar 1)))))
theorem draw_out {x : Int} {m : Nat} {Q : VK} {H' : Hp} (h1 : 1 ≤ m) (hQ : ∀ v : Nat, v < m → Q (.int v) H') : Q (.int (x % m)) H' := by
  have a := Int.emod_nonneg x (b := (m : Int)) (by omega)
  have b := Int.emod_lt_of_pos x (b := (m : Int)) (by omega)
  have e : x % (m : Int) = (((x % (m : Int)).toNat : Nat) : Int) := by omega
  rw [e]
  exact hQ _ (by omega)
theorem draw_tail {T : List (Addr × Str)} {p : Addr × Addr} {H0 H : Hp} {cs : List Int} {mx dr n : Int} {m : Nat} {c3 : Option V} {Q : VK} {nx : L2.St → Hp → Prop} (h1 : 1 ≤ m) (D : Deck3 T p H0 cs mx dr H) (hQ : ∀ v : Nat, v < m → Q (.int v) H) :
    drawTail { nx := nx, rt := Q } [some (.ref p.1), some (.int m), some (.int n), c3] H := by
  refine ⟨_, rfl, _, _, rfl, rfl, .inr ⟨by decide, by decide⟩, _, _, rfl, rfl, .inl ⟨_, rfl, _, _, rfl, rfl, (show (0 : Int) < 2147483647 by decide), ?_⟩⟩
  have b1 : (-(2 ^ 64) : Int) < (n * 39373 + 83) % 2147483647 ∧ (n * 39373 + 83) % 2147483647 < 2 ^ 64 := by omega
  refine ⟨_, rfl, _, rfl, _, _, rfl, rfl, .inl b1, _, rfl, p.1, _, rfl, D.gDraws, _, _, rfl, rfl, .inl ⟨by decide, by decide⟩, _, _, rfl, rfl, _, _, rfl, rfl, .inl ⟨_, rfl, _, _, rfl, rfl, (show (0 : Int) < 2147483587 by decide), ?_⟩⟩
  refine ⟨_, rfl, _, _, rfl, rfl, .inr ⟨by decide, by decide⟩, .inl ⟨_, rfl, _, _, rfl, rfl, (show (0 : Int) < 2147483563 by decide), ?_⟩⟩
  refine ⟨_, rfl, _, _, rfl, rfl, ⟨by decide, by decide⟩, .inl ⟨_, rfl, _, rfl, _, _, rfl, rfl, by omega, ?_⟩⟩
  exact draw_out h1 hQ
section
variable {P : Program} {w : World} {K : PySem.W.Frag} {mg : Str → Option Value} {base : Heap} {T : List (Addr × Str)}
abbrev s__law_draw : Stmt := topS 56
theorem sc__law_draw : FnScope ["_law_deck_here", "_law_many_here", "_law_number", "_law_cell"] ["_law_deck_here", "_law_many_here"] (defScope s__law_draw) := ⟨rfl, rfl, rfl, by decide +kernel, rfl, by decide +kernel, by decide +kernel⟩
abbrev ddN : List Str := ["_law_deck_here", "_law_many_here", "_law_number", "_law_cell"]
/-- what the draw's reading must give -/
def DrawRead (T : List (Addr × Str)) (t : TS) : Prop := ∀ (p : Addr × Addr) (N : Msk) (H : Hp) (m : Nat) (Q : VK), Mok ⟨T, some p⟩ N H → Glob ⟨T, some p⟩ H → 1 ≤ m → m < 1073741824 → (∀ (v : Nat) H', v < m → Go ⟨T, some p⟩ H H' → Glob ⟨T, some p⟩ H' → Q (.int v) H') → t { nx := fun _ H' => Q .non H', rt := Q } (L2.start ddN [.ref p.1, .int m]) H
theorem draw_ps (N : Nms mg) {g : Addr} {cdg : Value} {A : Around} {outer : List Env} {s : Shared} {H : Hp} {E : XK} (hr : Room 0 (A.deeper (PyProof.Rows.envOfC "_law_draw" (defScope s__law_draw) s.heap.objs.size g cdg))) :
    ∃ t, PSs (cxOf CX0 P w K mg base ddN "_law_draw" (defScope s__law_draw) g cdg A outer s H E).nox (defBody s__law_draw) t ∧ DrawRead T t := by
  have nd := sc__law_draw.nd
  have hu : (cxOf CX0 P w K mg base ddN "_law_draw" (defScope s__law_draw) g cdg A outer s H E).nox.A.units + 1 < cLine := by
    have h9 := hr.units
    show (A.deeper (PyProof.Rows.envOfC "_law_draw" (defScope s__law_draw) s.heap.objs.size g cdg)).units + 1 < cLine
    omega
  have v : ∀ (i : Nat) (x : Str) (p : Pos), ddN[i]? = some x → Vis (defScope s__law_draw) x → (x == ("__debug__" : Str)) = false → (x == ("__classdict__" : Str)) = false → PE (cxOf CX0 P w K mg base ddN "_law_draw" (defScope s__law_draw) g cdg A outer s H E).nox (.Name x p) (tVar i) := fun i x p h1 h2 h3 h4 => pe_var h1 h2 h3 h4
  have dg : ∀ (k : Str) (p1 p2 p3 : Pos) (j : Nat), PE (cxOf CX0 P w K mg base ddN "_law_draw" (defScope s__law_draw) g cdg A outer s H E).nox (.Subscript (.Name "_law_deck_here" p1) (.Constant (.str k) j p2) p3) (tDGet (tVar 0) (tC (.str k))) := fun k p1 p2 p3 j => pe_dget hu (v 0 "_law_deck_here" _ rfl (.inl rfl) (by decide) (by decide)) pe_str (fun _ _ => rfl)
  have num : ∀ p, PE (cxOf CX0 P w K mg base ddN "_law_draw" (defScope s__law_draw) g cdg A outer s H E).nox (.Name "_law_number" p) (tVar 2) := fun p => v 2 "_law_number" _ rfl (.inl rfl) (by decide) (by decide)
  have cel : ∀ p, PE (cxOf CX0 P w K mg base ddN "_law_draw" (defScope s__law_draw) g cdg A outer s H E).nox (.Name "_law_cell" p) (tVar 3) := fun p => v 3 "_law_cell" _ rfl (.inl rfl) (by decide) (by decide)
  have man : ∀ p, PE (cxOf CX0 P w K mg base ddN "_law_draw" (defScope s__law_draw) g cdg A outer s H E).nox (.Name "_law_many_here" p) (tVar 1) := fun p => v 1 "_law_many_here" _ rfl (.inl rfl) (by decide) (by decide)
  have hu64 : (cxOf CX0 P w K mg base ddN "_law_draw" (defScope s__law_draw) g cdg A outer s H E).nox.A.units + 64 < cLine := hr.units
  have intc : ∀ {e : Expr} {te : TE} {p pos : Pos}, PE (cxOf CX0 P w K mg base ddN "_law_draw" (defScope s__law_draw) g cdg A outer s H E).nox e te → starEach [e] (cxOf CX0 P w K mg base ddN "_law_draw" (defScope s__law_draw) g cdg A outer s H E).nox.env = (false, eval e (cxOf CX0 P w K mg base ddN "_law_draw" (defScope s__law_draw) g cdg A outer s H E).nox.env) :: starEach [] (cxOf CX0 P w K mg base ddN "_law_draw" (defScope s__law_draw) g cdg A outer s H E).nox.env →
      PE (cxOf CX0 P w K mg base ddN "_law_draw" (defScope s__law_draw) g cdg A outer s H E).nox (.Call (.Name "int" p) [e] [] pos) (tCB _ (tCons te tNil)) := fun h hs => pe_callTy call_int1 rfl N.int bt_int (pa_cons h pa_nil hs) (by decide) (by decide) hs (by rfl)
  refine ⟨_, pss_cons (ps_dput hu (v 0 "_law_deck_here" _ rfl (.inl rfl) (by decide) (by decide)) pe_str (pe_op op_add (dg _ _ _ _ _) pe_int) (by rfl)) (pss_cons (ps_set nd (i := 2) rfl (.inl rfl) (pe_op op_add (dg _ _ _ _ _) (pe_op op_mul pe_int (dg _ _ _ _ _))) (by rfl) (.inl rfl)) (pss_cons
    (ps_if (pt_cmpR (op_neD hu64) (dg _ _ _ _ _) (pe_lst pa_nil) (nomark _ (by decide) (by decide))) (pss_cons (ps_set nd (i := 3) rfl (.inl rfl) (pe_bm0 PySem.F.plainAttrs_list PySem.F.slot_list_pop PySem.F.type_list_pop mt_pop (dg _ _ _ _ _)) (by rfl) (.inl rfl))
      (pss_cons (ps_if (pt_cmpR op_ge (cel _) (pe_op op_pow pe_int pe_int) (nomark _ (by decide) (by decide))) (pss_cons (ps_expr (pe_bm PySem.F.plainAttrs_list PySem.F.slot_list_append PySem.F.type_list_append mt_append (dg _ _ _ _ _) (pa_cons (pe_op op_fdiv (cel _) (pe_callB (call_max2 rfl) rfl N.max bt_max (pa_cons pe_int (pa_cons (man _) pa_nil rfl) rfl) (by decide) (by decide) rfl rfl)) pa_nil rfl)) (by rfl)) (pss_one (ps_ret (pe_op op_mod (intc (cel _) rfl) (man _))))) pss_nil)
      (pss_one (ps_set nd (i := 2) rfl (.inl rfl) (pe_op op_add (num _) (pe_op op_mod (intc (cel _) rfl) pe_int)) (by rfl) (.inl rfl))))) pss_nil)
    (pss_cons (ps_set nd (i := 2) rfl (.inl rfl) (pe_op op_mod (intc (pe_op op_add (pe_op op_mul (num _) pe_int) pe_int) rfl) pe_int) (by rfl) (.inl rfl)) (pss_cons (ps_set nd (i := 2) rfl (.inl rfl) (pe_op op_mod (intc (pe_op op_add (pe_op op_add (pe_op op_mul (num _) (num _)) (pe_op op_mul pe_int (dg _ _ _ _ _))) pe_int) rfl) pe_int) (by rfl) (.inl rfl)) (pss_cons (ps_set nd (i := 2) rfl (.inl rfl) (pe_op op_mod (intc (pe_op op_mul (num _) pe_int) rfl) pe_int) (by rfl) (.inl rfl)) (pss_one (ps_ret (pe_op op_mod (intc (pe_op op_fdiv (num _) pe_int) rfl) (man _))))))))), ?_⟩
  intro p N0 H m Q mk gl h1 h2 hQ
  obtain ⟨cs, mx, dr, D0⟩ := Deck3.first gl
  refine ⟨_, rfl, p.1, _, rfl, D0.gDraws, _, _, rfl, rfl, _, rfl, p.1, _, rfl, D0.pDraws _, ?_⟩
  have D1 := D0.put (dr + 1)
  refine ⟨_, rfl, p.1, _, rfl, D1.gMixed, _, rfl, p.1, _, rfl, D1.gDraws, _, _, rfl, rfl, .inl ⟨by decide, by decide⟩, _, _, rfl, rfl, ?_⟩
  have dk : ∀ {K' : PySem.W.Frag} {cs' : List Int} {mx' dr' : Int} {H' : Hp}, Deck3 T p H cs' mx' dr' H' → Dp K' H' (.ref p.2) (.list (cs'.map PyData.int)) := fun {K' cs' mx' dr' H'} D => r3_dp _ _ (.lst D.ls (ints_r3s cs'))
  refine ⟨_, rfl, p.1, _, rfl, D1.gCells, by decide, fun q hq => ?_⟩
  have D2 := D1.laid (o := .lst []) hq
  have shp : ∀ xs : List Int, SeqAt.shaped (.list (xs.map PyData.int)) = true := fun xs => (enc_list enc_int (fun _ => by simp [PyData.depth])).shaped xs
  have out : ∀ {cs' : List Int} {mx' dr' : Int} {H' : Hp} (v : Nat), Deck3 T p H cs' mx' dr' H' → v < m → Q (.int v) H' := fun v D hv => hQ v _ hv D.go D.glob
  refine ⟨.list (cs.map PyData.int), .list [], dk D2, r3_dp _ _ (.lst upd_same .nil), shp cs, shp [], _, rfl, ?_⟩
  rcases List.eq_nil_or_concat cs with hc | ⟨ini, last, hc⟩
  · subst hc
    exact iteF (draw_tail h1 D2 fun v hv => out v D2 hv)
  · have hc : cs = ini ++ [last] := by rw [hc, List.concat_eq_append]
    subst hc
    have hlen : (ini ++ [last]).length ≤ 63 := D2.len
    rw [List.length_append, List.length_singleton] at hlen
    have e1 : (!PyData.eqv (.list ((ini ++ [last]).map PyData.int)) (.list [])) = true := by cases ini <;> simp [PyData.eqv, PyData.eqvAll]
    refine iteB e1 ?_
    refine ⟨_, rfl, p.1, _, rfl, D2.gCells, .inl ⟨rfl, _, .of D2.ls⟩, p.2, _, .int last, rfl, rfl, D2.ls, by simp, ?_⟩
    have e2 : ((ini ++ [last]).map V.int).dropLast = ini.map V.int := by simp
    rw [e2]
    have D3 := D2.cells (cs' := ini) (by omega)
    refine ⟨_, rfl, _, _, rfl, rfl, ⟨by decide, by decide, by decide⟩, _, _, rfl, rfl, _, rfl, ?_⟩
    by_cases hbig : (10 : Int) ^ (18 : Int).toNat ≤ last
    · refine iteB (decide_eq_true hbig) ?_
      refine ⟨_, rfl, p.1, _, rfl, D3.gCells, .inl ⟨rfl, _, .of D3.ls⟩, _, rfl, _, rfl, _, _, rfl, _, _, rfl, rfl, ?_, ?_⟩
      · show (0 : Int) < (if (m : Int) > 2 then (m : Int) else 2) ∧ (if (m : Int) > 2 then (m : Int) else 2) < 1073741824
        split <;> omega
      · refine ⟨p.2, _, _, rfl, rfl, D3.ls, by rw [List.length_map, sizeLine_eq]; omega, ?_⟩
        have e3 : ∀ z : Int, ini.map V.int ++ [V.int z] = (ini ++ [z]).map V.int := fun z => by simp
        rw [e3]
        have D4 := D3.cells (cs' := ini ++ [last / (if (m : Int) > 2 then (m : Int) else 2)]) (by simp; omega)
        exact ⟨_, rfl, .inl ⟨_, rfl, _, rfl, _, _, rfl, rfl, (show (0 : Int) < m by omega), draw_out h1 fun v hv => out v D4 hv⟩⟩
    · refine iteN (decide_eq_false hbig) ?_
      refine ⟨_, rfl, _, rfl, .inl ⟨_, rfl, _, _, rfl, rfl, (show (0 : Int) < 2147483629 by decide), _, _, rfl, rfl, ?_⟩⟩
      exact draw_tail h1 D3 fun v hv => out v D3 hv
theorem ok__law_draw {f : Addr} {fd : FuncData} (F : Fun K "_law_draw" "_law_draw" s__law_draw f fd) (N : Nms mg) : FnOk P w K mg base CX0 1 f fd ["_law_deck_here", "_law_many_here"] (spD T phi__law_draw) := by
  refine F.ok sc__law_draw (spD_len fun ds QD h => ?_) fun cdv A outer s H vs Q E hr hsp => ?_
  · obtain ⟨m, rfl, _⟩ := h
    rfl
  · obtain ⟨p, us, N0, ds, QD, rfl, mk, gl, r, ⟨m, rfl, h1, h2, h3⟩, hQ⟩ := hsp
    obtain ⟨t, ht, rd⟩ := draw_ps (T := T) N hr
    cases r with
    | cons r1 r2 =>
      cases r2
      cases r1
      exact ⟨t, ht, rd p N0 H m Q mk gl h1 h2 fun v H' hv go g => hQ _ _ _ (h3 v hv) go g (.int _)⟩
end
end L3
namespace L3
open PySem L2
open PySem.Spec
section
variable {P : Program} {w : World} {K : PySem.W.Frag} {mg : Str → Option Value} {base : Heap} {T : List (Addr × Str)}
abbrev s__law_deck : Stmt := topS 55
theorem sc__law_deck : FnScope ["_law_script", "_law_mixed", "_law_cell"] ["_law_script"] (defScope s__law_deck) := ⟨rfl, rfl, rfl, by decide +kernel, rfl, by decide +kernel, by decide +kernel⟩
abbrev dkN : List Str := ["_law_script", "_law_mixed", "_law_cell"]
/-- the deck is made: two new objects -/
def spDeck (K : PySem.W.Frag) : Sp := fun vs H Q _ => ∃ (a : Addr) (ns : List Int), vs = [.ref a] ∧ SqL K H a (ns.map V.int) ∧ ∀ (H1 : Hp) (p : Addr × Addr) (cs : List Int) (mx : Int), (∀ b o, H b = some o → H1 b = some o) → H p.1 = none → H p.2 = none → p.1 ≠ p.2 → cs.length ≤ 63 →
  H1 p.1 = some (.dK (deckKv p.2 mx 0)) → H1 p.2 = some (.lst (cs.map V.int)) → Q (.ref p.1) H1
theorem cutV_map (ns : List Int) (lo hi : Option Int) : ∃ ms : List Int, cutV (ns.map V.int) lo hi = ms.map V.int ∧ (hi = some 63 → lo = none → ms.length ≤ 63) := by
  refine ⟨(ns.drop (HT.sIx (ns.map V.int).length 0 lo)).take (HT.sIx (ns.map V.int).length (ns.map V.int).length hi - HT.sIx (ns.map V.int).length 0 lo), ?_, fun h1 h2 => ?_⟩
  · unfold cutV
    rw [← List.map_drop, ← List.map_take]
  · subst h1 h2
    rw [List.length_take]
    have e : HT.sIx (ns.map V.int).length (ns.map V.int).length (some ((63 : Nat) : Int)) = min 63 (ns.map V.int).length := HT.sIx_nat _ _ _
    have e2 : (some ((63 : Nat) : Int)) = some (63 : Int) := rfl
    rw [e2] at e
    rw [e]
    omega
theorem sql_ext {K : PySem.W.Frag} {H H1 : Hp} {a : Addr} {xs : List V} (h : SqL K H a xs) (e : ∀ b o, H b = some o → H1 b = some o) : SqL K H1 a xs := by
  rcases h with (h | ⟨o, h⟩) | h
  · exact .inl (.inl (e _ _ h))
  · exact .inl (.inr ⟨o, e _ _ h⟩)
  · exact .inr h
theorem ok__law_deck {f : Addr} {fd : FuncData} (F : Fun K "_law_deck" "_law_deck" s__law_deck f fd) (N : Nms mg) : FnOk P w K mg base CX0 1 f fd ["_law_script"] (spDeck K) := by
  refine F.ok sc__law_deck (fun vs H Q E h => by obtain ⟨a, ns, rfl, _⟩ := h; rfl) fun cdv A outer s H vs Q E hr hsp => ?_
  have nd := sc__law_deck.nd
  have v : ∀ (i : Nat) (x : Str) (p : Pos), dkN[i]? = some x → Vis (defScope s__law_deck) x → (x == ("__debug__" : Str)) = false → (x == ("__classdict__" : Str)) = false → PE (cxOf CX0 P w K mg base dkN "_law_deck" (defScope s__law_deck) f cdv A outer s H E).nox (.Name x p) (tVar i) := fun i x p h1 h2 h3 h4 => pe_var h1 h2 h3 h4
  have scr : ∀ p, PE (cxOf CX0 P w K mg base dkN "_law_deck" (defScope s__law_deck) f cdv A outer s H E).nox (.Name "_law_script" p) (tVar 0) := fun p => v 0 "_law_script" _ rfl (.inl rfl) (by decide) (by decide)
  have mix : ∀ p, PE (cxOf CX0 P w K mg base dkN "_law_deck" (defScope s__law_deck) f cdv A outer s H E).nox (.Name "_law_mixed" p) (tVar 1) := fun p => v 1 "_law_mixed" _ rfl (.inl rfl) (by decide) (by decide)
  have cel : ∀ p, PE (cxOf CX0 P w K mg base dkN "_law_deck" (defScope s__law_deck) f cdv A outer s H E).nox (.Name "_law_cell" p) (tVar 2) := fun p => v 2 "_law_cell" _ rfl (.inl rfl) (by decide) (by decide)
  have intc : ∀ {e : Expr} {te : TE} {p pos : Pos}, PE (cxOf CX0 P w K mg base dkN "_law_deck" (defScope s__law_deck) f cdv A outer s H E).nox e te → starEach [e] (cxOf CX0 P w K mg base dkN "_law_deck" (defScope s__law_deck) f cdv A outer s H E).nox.env = (false, eval e (cxOf CX0 P w K mg base dkN "_law_deck" (defScope s__law_deck) f cdv A outer s H E).nox.env) :: starEach [] (cxOf CX0 P w K mg base dkN "_law_deck" (defScope s__law_deck) f cdv A outer s H E).nox.env →
      PE (cxOf CX0 P w K mg base dkN "_law_deck" (defScope s__law_deck) f cdv A outer s H E).nox (.Call (.Name "int" p) [e] [] pos) (tCB _ (tCons te tNil)) := fun h hs => pe_callTy call_int1 rfl N.int bt_int (pa_cons h pa_nil hs) (by decide) (by decide) hs (by rfl)
  refine ⟨_, pss_cons (ps_set nd (i := 1) rfl (.inl rfl) pe_int (by rfl) (.inl rfl)) (pss_cons (ps_for PassesOwn.never rfl (pi_list (pe_slice sl_list (scr _) po_none (po_some pe_int))) (pg_name (i := 2) nd rfl (.inl rfl) (.inl rfl))
    (pss_one (ps_set nd (i := 1) rfl (.inl rfl) (pe_op op_mod (intc (pe_op op_add (pe_op op_add (pe_op op_mul (mix _) pe_int) (pe_op op_mod (intc (cel _) rfl) pe_int)) pe_int) rfl) pe_int) (by rfl) (.inl rfl))))
    (pss_one (ps_ret (pe_disp (pps_cons pe_str (pe_revL (pe_callTy call_list_of rfl N.list bt_list (pa_cons (pe_slice sl_list (scr _) po_none (po_some pe_int)) pa_nil rfl) (by decide) (by decide) rfl rfl)) (pps_cons pe_str (mix _) (pps_cons pe_str pe_int pps_nil))) rfl rfl (fun z => nomatch z) (by decide))))), ?_⟩
  obtain ⟨a, ns, rfl, hS, hQ⟩ := hsp
  obtain ⟨ms, em, hm⟩ := cutV_map ns none (some 63)
  refine ⟨_, rfl, 63, rfl, a, _, rfl, hS, fun l hl => ⟨l, rfl, ⟨_, .of upd_same⟩, for_list (xs := ms.map V.int) (fun i σ H' => H' = upd H l (.lst (ms.map V.int)) ∧ ∃ mx c, σ = [some (.ref a), some (.int mx), c]) ⟨by rw [em], 10894247, none, rfl⟩ (fun i σ H' _ h => by rw [h.1]; exact .of upd_same) (fun i x σ H' hx h => ?_) (fun σ H' h => ?_)⟩⟩
  · obtain ⟨rfl, mx, c, rfl⟩ := h
    obtain ⟨n, _, rfl⟩ := List.mem_map.mp (List.mem_of_getElem? hx)
    refine ⟨_, rfl, _, _, rfl, rfl, .inr ⟨by decide, by decide⟩, _, rfl, .inl ⟨_, rfl, _, _, rfl, rfl, (show (0 : Int) < 2147483629 by decide), _, _, rfl, rfl, _, _, rfl, rfl, .inl ⟨_, rfl, _, _, rfl, rfl, (show (0 : Int) < 2147483587 by decide), ?_⟩⟩⟩
    exact ⟨rfl, _, _, rfl⟩
  · obtain ⟨rfl, mx, c, rfl⟩ := h
    intro p hp
    have x1 : ∀ b o, H b = some o → upd H l (.lst (ms.map V.int)) b = some o := fun b o e => by rw [upd_ne (ne_of_none e hl)]; exact e
    have x2 : ∀ b o, H b = some o → upd (upd H l (.lst (ms.map V.int))) p (.dK []) b = some o := fun b o e => by rw [upd_ne (ne_of_none (x1 b o e) hp)]; exact x1 b o e
    refine ⟨_, rfl, 63, rfl, a, _, rfl, sql_ext hS x2, fun l2 hl2 => ⟨l2, _, rfl, .inl (.of upd_same), fun l3 hl3 => ⟨l3, _, rfl, .of upd_same, fun l4 hl4 => ⟨_, rfl, ?_⟩⟩⟩⟩
    have er : (cutV (ns.map V.int) none (some 63)).reverse = ms.reverse.map V.int := by rw [em, List.map_reverse]
    have np2 : p ≠ l2 := ne_of_none upd_same hl2
    have hp2 : upd (upd (upd H l (.lst (ms.map V.int))) p (.dK [])) l2 (.lst (cutV (ns.map V.int) none (some 63))) p = some (.dK []) := by rw [upd_ne np2, upd_same]
    have np3 : p ≠ l3 := ne_of_none hp2 hl3
    have hp3 : upd (upd (upd (upd H l (.lst (ms.map V.int))) p (.dK [])) l2 (.lst (cutV (ns.map V.int) none (some 63)))) l3 (.lst (cutV (ns.map V.int) none (some 63))) p = some (.dK []) := by rw [upd_ne np3]; exact hp2
    have np4 : p ≠ l4 := ne_of_none hp3 hl4
    have x3 : ∀ b o, H b = some o → upd (upd (upd H l (.lst (ms.map V.int))) p (.dK [])) l2 (.lst (cutV (ns.map V.int) none (some 63))) b = some o := fun b o e => by rw [upd_ne (ne_of_none (x2 b o e) hl2)]; exact x2 b o e
    have x4 : ∀ b o, H b = some o → upd (upd (upd (upd H l (.lst (ms.map V.int))) p (.dK [])) l2 (.lst (cutV (ns.map V.int) none (some 63)))) l3 (.lst (cutV (ns.map V.int) none (some 63))) b = some o := fun b o e => by rw [upd_ne (ne_of_none (x3 b o e) hl3)]; exact x3 b o e
    have free : ∀ {G : Hp} {b : Addr}, (∀ b o, H b = some o → G b = some o) → G b = none → H b = none := fun {G b} h n => by
      cases e : H b with
      | none => rfl
      | some o => rw [h b o e] at n; cases n
    refine ⟨by rw [upd_ne np4]; exact hp3, deckKv l4 mx 0, rfl, (show 3 ≤ 15 by decide), ?_⟩
    refine hQ _ (p, l4) ms.reverse mx (fun b o e => ?_) (free x1 hp) (free x4 hl4) np4 (by rw [List.length_reverse]; exact hm rfl rfl) upd_same ?_
    · have e4 := x4 b o e
      rw [upd_ne (ne_of_none (x1 b o e) hp), upd_ne (ne_of_none e4 hl4)]
      exact e4
    · rw [upd_ne (Ne.symm np4), upd_same, er]
end
end L3
/-! Helps for the reading of the law's own def. -/
namespace L3
open PySem
inductive F2 {α β : Type} (R : α → β → Prop) : List α → List β → Prop
  | nil : F2 R [] []
  | cons {x : α} {y : β} {xs : List α} {ys : List β} : R x y → F2 R xs ys → F2 R (x :: xs) (y :: ys)
theorem F2.len {α β : Type} {R : α → β → Prop} : ∀ {xs : List α} {ys : List β}, F2 R xs ys → ys.length = xs.length
  | _, _, .nil => rfl
  | _, _, .cons _ h => by rw [List.length_cons, List.length_cons, h.len]
theorem F2.left {α β : Type} {R : α → β → Prop} : ∀ {xs : List α} {ys : List β}, F2 R xs ys → ∀ x ∈ xs, ∃ y ∈ ys, R x y
  | _, _, .cons r h, z, hz => by
    rcases List.mem_cons.mp hz with e | hz
    · subst e
      exact ⟨_, List.mem_cons_self, r⟩
    · obtain ⟨y, hy, q⟩ := h.left z hz
      exact ⟨y, List.mem_cons_of_mem _ hy, q⟩
theorem F2.right {α β : Type} {R : α → β → Prop} : ∀ {xs : List α} {ys : List β}, F2 R xs ys → ∀ y ∈ ys, ∃ x ∈ xs, R x y
  | _, _, .cons r h, z, hz => by
    rcases List.mem_cons.mp hz with e | hz
    · subst e
      exact ⟨_, List.mem_cons_self, r⟩
    · obtain ⟨x, hx, q⟩ := h.right z hz
      exact ⟨x, List.mem_cons_of_mem _ hx, q⟩
theorem lc_rel {α : Type} {γ : TGd} {τe : TD} {vs : List Nat} {ρ : Env3} {Q : List PyData → Prop} {enc : α → PyData} {R : α → PyData → Prop} : ∀ (xs : List α) (acc : List PyData), acc.length + xs.length ≤ 100000 →
    (∀ x ∈ xs, ∀ K : PyData → Prop, (∀ y, R x y → K y) → γ (enc x) (wipeD ρ vs) fun ρ2 => τe ρ2 K) → (∀ ys, F2 R xs ys → Q (acc ++ ys)) → lcGo γ dYes τe vs ρ Q (xs.map enc) acc
  | [], acc, _, _, q => by
    have h := q [] .nil
    rw [List.append_nil] at h
    exact h
  | x :: xs, acc, hl, h, q => by
    rw [List.length_cons] at hl
    refine h x List.mem_cons_self (fun y => acc.length < 100000 ∧ lcGo γ dYes τe vs ρ Q (xs.map enc) (acc ++ [y])) fun y hy => ⟨by omega, ?_⟩
    refine lc_rel xs _ (by rw [List.length_append, List.length_singleton]; omega) (fun z hz => h z (List.mem_cons_of_mem _ hz)) fun ys hys => ?_
    have := q (y :: ys) (.cons hy hys)
    simpa using this
/-- the sizes that are told -/
def told (ys : List PyData) : List PyData := ys.filter fun y => !isNo y
theorem told_ints {ys : List PyData} (h : ∀ y ∈ ys, y = .none ∨ ∃ z, y = .int z) : ∃ ns : List Int, told ys = ns.map .int := by
  unfold told
  induction ys with
  | nil => exact ⟨[], rfl⟩
  | cons y ys ih =>
    obtain ⟨ns, e⟩ := ih fun z hz => h z (List.mem_cons_of_mem _ hz)
    rcases h y List.mem_cons_self with r | ⟨z, r⟩
    · subst r
      exact ⟨ns, by rw [List.filter_cons_of_neg (by simp [isNo])]; exact e⟩
    · subst r
      exact ⟨z :: ns, by rw [List.filter_cons_of_pos (by simp [isNo]), e]; rfl⟩
theorem told_nil {ys : List PyData} (h : told ys = []) : ∀ y ∈ ys, isNo y = true := fun y hy => by
  cases q : isNo y with
  | true => rfl
  | false =>
    have : y ∈ told ys := List.mem_filter.mpr ⟨hy, by rw [q]; rfl⟩
    rw [h] at this
    exact nomatch this
theorem enc_ints : EncOk (fun xs : List Int => PyData.list (xs.map PyData.int)) := enc_list enc_int fun a => by simp [PyData.depth]
theorem enc_nats : EncOk (fun xs : List Nat => PyData.list (xs.map eN)) := enc_list enc_n fun a => by rw [dep_n]; decide
theorem W_ge (g : Gar) : ∀ n, g.1.1 ≤ (W g n).1
  | 0 => Nat.le_refl _
  | n + 1 => by
    have h := W_ge g n
    have e : (W g (n + 1)).1 = (round g.2 (W g n)).1 := rfl
    rw [e, round_places]
    omega
theorem pow_each {b : Book} {n : Nat} (bk : BookOk b) (hn : 1 ≤ n) (n9 : n ≤ 900) (hs : Sing b n) : ∀ u ∈ powB b n, WebOk u ∧ 2 ≤ u.1 ∧ u.2.length ≤ 600 := fun u hu => by
  obtain ⟨c, hc, rfl⟩ := List.getElem_of_mem hu
  have hc' : c < b.length := by unfold powB at hc; rwa [List.length_map] at hc
  have e : kd (powB b n) c = (powB b n)[c] := by unfold kd; rw [List.getD_eq_getElem?_getD, List.getElem?_eq_getElem hc]; rfl
  rw [← e, kd_pow bk hc' hn]
  have wk := run_webOk (hs.run bk n9 c hc')
  exact ⟨wk, W_ge (single b c) n, wk.few⟩
theorem pow_book {b : Book} {n : Nat} (bk : BookOk b) (hn : 1 ≤ n) (n9 : n ≤ 900) (hs : Sing b n) : BookOk (powB b n) := by
  have hl : (powB b n).length = b.length := List.length_map ..
  refine ⟨by rw [hl]; exact bk.pos, by rw [hl]; exact bk.few, fun u hu => ⟨(pow_each bk hn n9 hs u hu).1, (pow_each bk hn n9 hs u hu).2.1, ?_⟩⟩
  obtain ⟨c, hc, rfl⟩ := List.getElem_of_mem hu
  have hc' : c < b.length := by rwa [hl] at hc
  have e : kd (powB b n) c = (powB b n)[c] := by unfold kd; rw [List.getD_eq_getElem?_getD, List.getElem?_eq_getElem hc]; rfl
  rw [← e, kd_pow bk hc' hn, hl]
  exact W_below (single_ok bk hc') n
theorem pow_room {g : Gar} {n : Nat} (run : Run g n) (hn : 1 ≤ n) (hs : Sing g.2 n) (h : (lround (powB g.2 n) g.1).2.length ≤ 600) : RoomOk (powB g.2 n) g.1 := by
  have e := round_lround (powB g.2 n) g.1
  refine ⟨?_, ?_⟩
  · rw [e, made_places run hn hs]
    exact run.fit.places n (Nat.le_refl _)
  · rw [e]
    exact h
theorem pow_below {g : Gar} {n : Nat} (ok : GarOk g) : Below g.1 (powB g.2 n).length := by
  unfold powB
  rw [List.length_map]
  exact ok.below
theorem made_ok {g : Gar} {n : Nat} (run : Run g n) (hn : 1 ≤ n) (hs : Sing g.2 n) (h : (lround (powB g.2 n) g.1).2.length ≤ 600) : WebOk (lround (powB g.2 n) g.1) := by
  rw [← round_lround]
  exact (round_ok run.ok.start (pow_book run.ok.book hn run.n9 hs) (pow_below run.ok) (pow_room run hn hs h)).1
theorem enc_webs : EncOk (fun xs : List Web => PyData.list (xs.map eWeb)) := enc_list enc_web fun a => Nat.le_trans (dep_web a) (by decide)
theorem ren_sorted {g : Gar} (ok : GarOk g) (n : Nat) : sortE eN (renF g n (ixG g n)) = List.range (W g n).1 := by
  refine sorted_one enc_n ((sortE_perm _).trans (renF_perm ok n)) (sortE_pair _) ?_
  have h : (List.range (W g n).1).Pairwise (· < ·) := List.pairwise_lt_range
  exact h.imp fun {a b} h => by rw [leN]; exact decide_eq_true (Nat.le_of_lt h)
theorem ren_start (g : Gar) (n : Nat) (ix : Adr → Nat) : (renF g n ix).take g.1.1 = List.range g.1.1 := by
  unfold renF
  rw [List.take_append_of_le_length (by rw [List.length_range]; exact Nat.le_refl _), List.take_of_length_le (by rw [List.length_range]; exact Nat.le_refl _)]
end L3
namespace L3
open PySem L2
open PySem.Spec
section
variable {X : Cx} {T : List (Addr × Str)} {dk : Addr × Addr} {pos p : Pos} {x : Str} {k : Nat} {ps : List Str} {φ : Phi} {e : Expr} {es : List Expr} {t : TA} {τ : TAd}
theorem q_callT (h : HasX X x k ps (sp3 ⟨T, none⟩ φ)) (hr : Room k X.A) (ha : PDA X ⟨T, some dk⟩ (e :: es) t τ) (hg : Gl X x := by rfl) (hdb : (x == ("__debug__" : Str)) = false := by decide) (he : starEach (e :: es) X.env = (false, eval e X.env) :: starEach es X.env := by rfl) (hpl : (backTo pos (starEach es X.env)).any (·.1) = false := by rfl) :
    PDE X ⟨T, some dk⟩ (.Call (.Name x p) (e :: es) [] pos) (tCall (sp3 ⟨T, none⟩ φ) [] E0 t) (dCB φ τ) := q_call (C := ⟨T, some dk⟩) h hr ha hg hdb he hpl
theorem q_callGT (h : HasGX X x k ps (sp3 ⟨T, none⟩ φ)) (hr : Room k X.A) (hG : X.A.guards = some []) (ha : PDA X ⟨T, some dk⟩ (e :: es) t τ) (hg : Gl X x := by rfl) (hdb : (x == ("__debug__" : Str)) = false := by decide) (he : starEach (e :: es) X.env = (false, eval e X.env) :: starEach es X.env := by rfl) (hpl : (backTo pos (starEach es X.env)).any (·.1) = false := by rfl) :
    PDE X ⟨T, some dk⟩ (.Call (.Name x p) (e :: es) [] pos) (tCall (sp3 ⟨T, none⟩ φ) [] E0 t) (dCB φ τ) := q_callG (C := ⟨T, some dk⟩) h hr hG ha hg hdb he hpl
end
section
variable {P : Program} {w : World} {K : PySem.W.Frag} {mg : Str → Option Value} {base : Heap} {T : List (Addr × Str)}
abbrev s_law : Stmt := topS 76
theorem sc_law : FnScope ["_law_script", "_law_deck_here", "_law_garden_here", "_law_n", "_law_singles", "_law_turn", "_law_power", "_law_made", "_law_renaming_here", "_law_start_here", "_law_book_here", "_law_sizes", "_law_c", "_law_it", "_law_growth_here"] ["_law_script"] (defScope s_law) := ⟨rfl, rfl, rfl, by decide +kernel, rfl, by decide +kernel, by decide +kernel⟩
abbrev lawN : List Str := ["_law_script", "_law_deck_here", "_law_garden_here", "_law_n", "_law_singles", "_law_turn", "_law_power", "_law_made", "_law_renaming_here", "_law_start_here", "_law_book_here", "_law_sizes", "_law_c", "_law_it", "_law_growth_here"]
theorem byYs {γ : TGd} {υ : TTd} {τe : TD} {vs : List Nat} {ρ : Env3} {Q : List PyData → Prop} {ys acc : List PyData} (h : lcGo γ υ τe vs ρ Q (ys.map id) acc) : lcGo γ υ τe vs ρ Q ys acc := by
  rw [List.map_id] at h
  exact h
theorem byOnce {A B : Prop} (h : A) (f : A → B) : B := f h
abbrev lawE (p : Addr × Addr) : Env3 := [.un, .val (.ref p.1), .un, .un, .un, .un, .un, .un, .un, .un, .un, .un, .un, .un, .un]
theorem law_ps (N : Nms mg)
(h__law_garden : Has P w K mg base "_law_garden" 6 ["_law_deck_here"] (spD T phi__law_garden)) (h_book_power : Has P w K mg base "book_power" 11 ["book", "n"] (sp3 ⟨T, none⟩ phi_book_power)) (h__law_round : Has P w K mg base "_law_round" 2 ["_law_web_here", "_law_book_here"] (sp3 ⟨T, none⟩ phi__law_round)) (h__law_renaming : Has P w K mg base "_law_renaming" 13 ["_law_garden_here", "_law_power", "_law_n"] (sp3 ⟨T, none⟩ phi__law_renaming)) (h__law_have_degrees : HasG P w K mg base "_law_have_degrees" 13 ["_law_book_here", "_law_power", "_law_n"] (sp3 ⟨T, none⟩ phi__law_have_degrees)) (h__law_draw : Has P w K mg base "_law_draw" 1 ["_law_deck_here", "_law_many_here"] (spD T phi__law_draw)) (h__law_most : Has P w K mg base "_law_most" 3 ["_law_garden_here", "_law_n"] (sp3 ⟨T, none⟩ phi__law_most)) (h__law_go_on : HasG P w K mg base "_law_go_on" 13 ["_law_garden_here", "_law_n"] (sp3 ⟨T, none⟩ phi__law_go_on)) (h__law_led : Has P w K mg base "_law_led" 1 ["_law_web_here", "_law_renaming_here"] (sp3 ⟨T, none⟩ phi__law_led)) (h_grown : Has P w K mg base "grown" 11 ["garden", "n"] (sp3 ⟨T, none⟩ phi_grown)) (h_one_round : Has P w K mg base "one_round" 7 ["web", "book"] (sp3 ⟨T, none⟩ phi_one_round))
  {f : Addr} {cdv : Value} {A : Around} {outer : List Env} {s : Shared} {H : Hp} {E : XK} (hg : A.guards = some []) (hr : Room 13 (A.deeper (PyProof.Rows.envOfC "law" (defScope s_law) s.heap.objs.size f cdv))) :
    ∃ (t : TS) (τ : Addr × Addr → TSd), (∀ dk, PDSs (cxOf CX0 P w K mg base lawN "law" (defScope s_law) f cdv A outer s H E).nox ⟨T, some dk⟩ (defBody s_law).tail t (τ dk)) ∧ ∀ dk, τ dk { nx := fun _ => False, rt := fun d => d = .bool true } (lawE dk) := by
  have hu := hr.units
  refine ⟨_, _, fun dk => qss_cons (qs_set (i := 2) sc_law.nd (q_callD (i := 1) h__law_garden (hr.mono (by decide)) qa_nil)) (qss_cons (qs_asg (q_var 2) (qg_tupK (n := 2) rfl (qgs_cons (qg_name (i := 9) sc_law.nd) (qgs_cons (qg_name (i := 10) sc_law.nd) qgs_nil)))) (qss_cons (qs_set (i := 3) sc_law.nd (q_add q_int (q_callD (i := 1) h__law_draw (hr.mono (by decide)) (qa_cons q_int qa_nil)))) (qss_cons (qs_setLcD (i := 4) rfl sc_law.nd rfl rfl (sw_true rfl rfl rfl (by decide +kernel)) (own := [("_law_c", 12)]) (qi_rng1 rfl N.range (q_cb call_lenK l_len rfl N.len PySem.boot_len (qa_cons (q_var 10) qa_nil))) (blkOk_by (by rfl)) (fun _ _ _ _ _ => (qg_name (i := 12) sc_law.nd)) (fun _ _ _ _ _ => qts_nil) (fun _ _ _ _ _ => (q_tup (qa_cons (q_tup (qa_cons q_int (qa_cons (q_tup (qa_cons (q_tup (qa_cons q_int (qa_cons q_int (qa_cons (q_var 12) qa_nil)))) qa_nil)) qa_nil))) (qa_cons (q_var 10) qa_nil)))) (by decide) s) (qss_cons (qs_for PassesOwn.never rfl (qi_rng1 rfl N.range q_int) (qg_name (i := 5) sc_law.nd) (qss_cons (qs_setLcD (i := 11) rfl sc_law.nd rfl rfl (sw_true rfl rfl rfl (by decide +kernel)) (own := [("_law_it", 13)]) (qi_listK (q_catL (q_var 4) (PDL.pde (ql_lst (qa_cons (q_var 2) qa_nil))))) (blkOk_by (by rfl)) (fun _ _ _ _ _ => (qg_name (i := 13) sc_law.nd)) (fun _ _ _ _ _ => qts_nil) (fun _ _ _ _ _ => (q_callT h__law_most (hr.mono (by decide)) (qa_cons (q_var 13) (qa_cons (q_var 3) qa_nil)))) (by decide) s) (qss_one (qs_if (PDW.pdt (qw_and (qt_cmp op_gt l_gt (by decide) (by decide) (q_var 3) q_int) (qw_and1 (qt_cmp (op_neDK hu) lift_ne (by decide) (by decide) (PDL.pde (ql_lc rfl sc_law.nd (own := [("_law_it", 13)]) (qi_listK (q_var 11)) (blkOk_by (by rfl)) (fun _ _ _ _ _ => (qg_name (i := 13) sc_law.nd)) (fun _ _ _ _ _ => (qts_one (qt_cmp op_notN lift_notN (by decide) (by decide) (q_var 13) q_non))) (fun _ _ _ _ _ => (q_var 13)) (by decide) s)) (PDL.pde (ql_lst qa_nil)))))) (qss_one (qs_set (i := 3) sc_law.nd (q_sub (q_var 3) q_int))) (qss_nil))))) (qss_cons (qs_set (i := 6) sc_law.nd (q_callT h_book_power (hr.mono (by decide)) (qa_cons (q_var 10) (qa_cons (q_var 3) qa_nil)))) (qss_cons (qs_set (i := 7) sc_law.nd (q_callT h__law_round (hr.mono (by decide)) (qa_cons (q_var 9) (qa_cons (q_var 6) qa_nil)))) (qss_cons (qs_if (PDW.pdt (qw_or (qt_cmp op_notN lift_notN (by decide) (by decide) (q_callT h__law_most (hr.mono (by decide)) (qa_cons (q_var 2) (qa_cons (q_var 3) qa_nil))) q_non) (qw_or (qt_cmp op_gt l_gt (by decide) (by decide) (q_ixK (q_var 7) q_int) q_int) (qw_or1 (qt_cmp op_gt l_gt (by decide) (by decide) (q_cb call_lenK l_len rfl N.len PySem.boot_len (qa_cons (q_ixK (q_var 7) q_int) qa_nil)) q_int))))) (qss_one (qs_ret q_bl)) (qss_nil)) (qss_cons (qs_set (i := 8) sc_law.nd (q_callT h__law_renaming (hr.mono (by decide)) (qa_cons (q_var 2) (qa_cons (q_var 6) (qa_cons (q_var 3) qa_nil))))) (qss_cons (qs_if (PDW.pdt (qw_or (qt_cmp (op_neDK hu) lift_ne (by decide) (by decide) (PDL.pde (ql_sorted hu rfl N.sorted (q_var 8))) (PDL.pde (ql_rg rfl rfl N.list (qr_1 rfl N.range (q_ixK (q_var 7) q_int))))) (qw_or1 (qt_cmp (op_neDK hu) lift_ne (by decide) (by decide) (q_slTK (q_var 8) qo_none (qo_some (q_ixK (q_var 9) q_int))) (q_tupRg rfl rfl N.tuple (qr_1 rfl N.range (q_ixK (q_var 9) q_int))))))) (qss_one (qs_ret q_bl)) (qss_nil)) (qss_cons (qs_if (PDW.pdt (qw_or (qt_cmp op_ne l_neS (by decide) (by decide) (q_repr (room65 hr) hg N.repr (q_callT h__law_led (hr.mono (by decide)) (qa_cons (q_var 7) (qa_cons (q_var 8) qa_nil)))) (q_repr (room65 hr) hg N.repr (q_callT h_grown (hr.mono (by decide)) (qa_cons (q_var 2) (qa_cons (q_var 3) qa_nil))))) (qw_or1 (qt_not (qt_val (q_callGT h__law_go_on (hr.mono (by decide)) hg (qa_cons (q_var 2) (qa_cons (q_var 3) qa_nil)))))))) (qss_one (qs_ret q_bl)) (qss_nil)) (qss_cons (qs_if (PDW.pdt (qw_and (qt_cmp op_eq l_eqI (by decide) (by decide) (q_var 3) q_int) (qw_and1 (qt_cmp op_ne l_neS (by decide) (by decide) (q_repr (room65 hr) hg N.repr (q_callT h_one_round (hr.mono (by decide)) (qa_cons (q_var 9) (qa_cons (q_var 6) qa_nil)))) (q_repr (room65 hr) hg N.repr (q_var 7)))))) (qss_one (qs_ret q_bl)) (qss_nil)) (qss_cons (qs_if (qt_cmp (op_neDK hu) lift_ne (by decide) (by decide) (PDL.pde (ql_lc rfl sc_law.nd (own := [("_law_growth_here", 14)]) (qi_tupK (q_var 6)) (blkOk_by (by rfl)) (fun _ _ _ _ _ => (qg_name (i := 14) sc_law.nd)) (fun _ _ _ _ _ => (qts_one (PDW.pdt (qw_or (qt_cmp op_gt l_gt (by decide) (by decide) (q_ixK (q_var 14) q_int) q_int) (qw_or1 (qt_cmp op_gt l_gt (by decide) (by decide) (q_cb call_lenK l_len rfl N.len PySem.boot_len (qa_cons (q_ixK (q_var 14) q_int) qa_nil)) q_int)))))) (fun _ _ _ _ _ => (q_var 14)) (by decide) s)) (PDL.pde (ql_lst qa_nil))) (qss_one (qs_ret q_bl)) (qss_nil)) (qss_one (qs_ret (q_callGT h__law_have_degrees (hr.mono (by decide)) hg (qa_cons (q_var 10) (qa_cons (q_var 6) (qa_cons (q_var 3) qa_nil)))))))))))))))))), fun dk => ?_⟩
  repeat (first | refine ⟨_, rfl, ?_⟩ | refine ⟨_, _, rfl, rfl, ?_⟩ | refine ⟨_, _, _, .inr rfl, rfl, rfl, ?_⟩ | refine ⟨_, _, _, .inl rfl, rfl, rfl, ?_⟩ | refine ⟨_, .inr rfl, ?_⟩ | refine ⟨_, .inl rfl, ?_⟩ | refine ⟨(by intro s z; cases z), ?_⟩ | refine ⟨Nat.le_of_ble_eq_true rfl, ?_⟩ | refine ⟨rfl, ?_⟩ | refine iteT ?_ | refine iteF ?_ | refine ⟨_, _, rfl, ?_⟩ | refine ⟨_, _, _, rfl, ?_⟩)
  intro g ok
  have hkl : (List.map eWeb g.2).length = g.2.length := List.length_map ..
  have hk := ok.book.few
  repeat (first | refine ⟨_, rfl, ?_⟩ | refine ⟨_, _, rfl, rfl, ?_⟩ | refine ⟨_, _, _, .inr rfl, rfl, rfl, ?_⟩ | refine ⟨_, _, _, .inl rfl, rfl, rfl, ?_⟩ | refine ⟨_, .inr rfl, ?_⟩ | refine ⟨_, .inl rfl, ?_⟩ | refine ⟨(by intro s z; cases z), ?_⟩ | refine ⟨Nat.le_of_ble_eq_true rfl, ?_⟩ | refine ⟨rfl, ?_⟩ | refine iteT ?_ | refine iteF ?_ | refine ⟨_, _, rfl, ?_⟩ | refine ⟨_, _, _, rfl, ?_⟩)
  intro n0 hn0'
  have hn0 : n0 < 5 := hn0'
  repeat (first | refine ⟨_, rfl, ?_⟩ | refine ⟨_, _, rfl, rfl, ?_⟩ | refine ⟨_, _, _, .inr rfl, rfl, rfl, ?_⟩ | refine ⟨_, _, _, .inl rfl, rfl, rfl, ?_⟩ | refine ⟨_, .inr rfl, ?_⟩ | refine ⟨_, .inl rfl, ?_⟩ | refine ⟨(by intro s z; cases z), ?_⟩ | refine ⟨Nat.le_of_ble_eq_true rfl, ?_⟩ | refine ⟨rfl, ?_⟩ | refine iteT ?_ | refine iteF ?_ | refine ⟨_, _, rfl, ?_⟩ | refine ⟨_, _, _, rfl, ?_⟩)
  rw [hkl]
  refine ⟨by omega, by omega, ?_⟩
  rw [rgN0]
  refine lc_map (enc := eN) (f := fun c => eGar (single g.2 c)) (List.range g.2.length) [] (by simp; omega) (fun c hc K1 hK1 => ?_) ?_
  · repeat (first | refine ⟨_, rfl, ?_⟩ | refine ⟨_, _, rfl, rfl, ?_⟩ | refine ⟨_, _, _, .inr rfl, rfl, rfl, ?_⟩ | refine ⟨_, _, _, .inl rfl, rfl, rfl, ?_⟩ | refine ⟨_, .inr rfl, ?_⟩ | refine ⟨_, .inl rfl, ?_⟩ | refine ⟨(by intro s z; cases z), ?_⟩ | refine ⟨Nat.le_of_ble_eq_true rfl, ?_⟩ | refine ⟨rfl, ?_⟩ | refine iteT ?_ | refine iteF ?_ | refine ⟨_, _, rfl, ?_⟩ | refine ⟨_, _, _, rfl, ?_⟩)
    exact byEq (Q := K1) hK1 rfl
  repeat (first | refine ⟨_, rfl, ?_⟩ | refine ⟨_, _, rfl, rfl, ?_⟩ | refine ⟨_, _, _, .inr rfl, rfl, rfl, ?_⟩ | refine ⟨_, _, _, .inl rfl, rfl, rfl, ?_⟩ | refine ⟨_, .inr rfl, ?_⟩ | refine ⟨_, .inl rfl, ?_⟩ | refine ⟨(by intro s z; cases z), ?_⟩ | refine ⟨Nat.le_of_ble_eq_true rfl, ?_⟩ | refine ⟨rfl, ?_⟩ | refine iteT ?_ | refine iteF ?_ | refine ⟨_, _, rfl, ?_⟩ | refine ⟨_, _, _, rfl, ?_⟩)
  refine ⟨by decide, by decide, ?_⟩
  rw [show rgN 0 ((4 : Int)).toNat = (List.range 4).map eN from rgN0 4]
  refine for_ind (enc := eN) (fun i ρ => ∃ (n : Nat) (c5 c11 : Cell), 1 ≤ n ∧ n ≤ 5 ∧ (n + i ≤ 5 ∨ Sing g.2 n) ∧ ρ = [.un, .val (.ref dk.1), .dat (eGar g), .dat (eN n), .dat (.list ((List.range g.2.length).map fun c => eGar (single g.2 c))), c5, .un, .un, .un, .dat (eWeb g.1), .dat (eBook g.2), c11, .un, .un, .un]) (List.range 4) 0 _ ⟨1 + n0, .un, .un, by omega, by omega, .inl (by omega), ?_⟩ (fun i j ρ hi hI K' hK => ?_) (fun ρ hI => ?_)
  · rw [show eN (1 + n0) = .int (1 + (n0 : Int)) by simp [eN]]
    rfl
  · obtain ⟨n, c5, c11, h1, h5, hw, rfl⟩ := hI
    rw [Nat.zero_add] at hK hw
    have hi4 : i < 4 := by
      have := (List.getElem?_eq_some_iff.mp hi).1
      rwa [List.length_range] at this
    have hgs : ((List.range g.2.length).map fun c => eGar (single g.2 c)) ++ [eGar g] = ((List.range g.2.length).map (single g.2) ++ [g]).map eGar := by
      rw [List.map_append, List.map_map]
      rfl
    repeat (first | refine ⟨_, rfl, ?_⟩ | refine ⟨_, _, rfl, rfl, ?_⟩ | refine ⟨_, _, _, .inr rfl, rfl, rfl, ?_⟩ | refine ⟨_, _, _, .inl rfl, rfl, rfl, ?_⟩ | refine ⟨_, .inr rfl, ?_⟩ | refine ⟨_, .inl rfl, ?_⟩ | refine ⟨(by intro s z; cases z), ?_⟩ | refine ⟨Nat.le_of_ble_eq_true rfl, ?_⟩ | refine ⟨rfl, ?_⟩ | refine iteT ?_ | refine iteF ?_ | refine ⟨_, _, rfl, ?_⟩ | refine ⟨_, _, _, rfl, ?_⟩)
    refine ⟨by simp; omega, _, rfl, ?_⟩
    rw [hgs]
    refine lc_rel (enc := eGar) (R := fun x y => MostRes x n y) _ [] (by simp; omega) (fun x hx K1 hK1 => ?_) (fun ys hys => ?_)
    · have ok' : GarOk x := by
        rcases List.mem_append.mp hx with hx | hx
        · obtain ⟨c, hc, rfl⟩ := List.mem_map.mp hx
          exact single_ok ok.book (List.mem_range.mp hc)
        · rw [List.mem_singleton.mp hx]
          exact ok
      repeat (first | refine ⟨_, rfl, ?_⟩ | refine ⟨_, _, rfl, rfl, ?_⟩ | refine ⟨_, _, _, .inr rfl, rfl, rfl, ?_⟩ | refine ⟨_, _, _, .inl rfl, rfl, rfl, ?_⟩ | refine ⟨_, .inr rfl, ?_⟩ | refine ⟨_, .inl rfl, ?_⟩ | refine ⟨(by intro s z; cases z), ?_⟩ | refine ⟨Nat.le_of_ble_eq_true rfl, ?_⟩ | refine ⟨rfl, ?_⟩ | refine iteT ?_ | refine iteF ?_ | refine ⟨_, _, rfl, ?_⟩ | refine ⟨_, _, _, rfl, ?_⟩)
      exact ⟨ok', by omega, hK1⟩
    rw [List.nil_append]
    have hR : ∀ y ∈ ys, y = .none ∨ ∃ z, y = .int z := fun y hy => by
      obtain ⟨x, _, hx⟩ := hys.right y hy
      exact hx.imp (fun h => h.1) id
    have hyl : ys.length ≤ 4 := by
      have := hys.len
      rw [List.length_append, List.length_map, List.length_range, List.length_singleton] at this
      omega
    obtain ⟨ns, ens⟩ := told_ints hR
    repeat (first | refine ⟨_, rfl, ?_⟩ | refine ⟨_, _, rfl, rfl, ?_⟩ | refine ⟨_, _, _, .inr rfl, rfl, rfl, ?_⟩ | refine ⟨_, _, _, .inl rfl, rfl, rfl, ?_⟩ | refine ⟨_, .inr rfl, ?_⟩ | refine ⟨_, .inl rfl, ?_⟩ | refine ⟨(by intro s z; cases z), ?_⟩ | refine ⟨Nat.le_of_ble_eq_true rfl, ?_⟩ | refine ⟨rfl, ?_⟩ | refine iteT ?_ | refine iteF ?_ | refine ⟨_, _, rfl, ?_⟩ | refine ⟨_, _, _, rfl, ?_⟩)
    by_cases h1n : 1 < n
    · refine iteB (decide_eq_true (by omega)) ?_
      repeat (first | refine ⟨_, rfl, ?_⟩ | refine ⟨_, _, rfl, rfl, ?_⟩ | refine ⟨_, _, _, .inr rfl, rfl, rfl, ?_⟩ | refine ⟨_, _, _, .inl rfl, rfl, rfl, ?_⟩ | refine ⟨_, .inr rfl, ?_⟩ | refine ⟨_, .inl rfl, ?_⟩ | refine ⟨(by intro s z; cases z), ?_⟩ | refine ⟨Nat.le_of_ble_eq_true rfl, ?_⟩ | refine ⟨rfl, ?_⟩ | refine iteT ?_ | refine iteF ?_ | refine ⟨_, _, rfl, ?_⟩ | refine ⟨_, _, _, rfl, ?_⟩)
      refine byYs (?_ : lcGo _ _ _ _ _ _ (ys.map id) [])
      refine lc_filter (enc := id) (f := id) (p := fun y => !isNo y) ys [] (by simp; omega) (fun y hy K1 K2 hK1 hK2 => ?_) ?_
      · repeat (first | refine ⟨_, rfl, ?_⟩ | refine ⟨_, _, rfl, rfl, ?_⟩ | refine ⟨_, _, _, .inr rfl, rfl, rfl, ?_⟩ | refine ⟨_, _, _, .inl rfl, rfl, rfl, ?_⟩ | refine ⟨_, .inr rfl, ?_⟩ | refine ⟨_, .inl rfl, ?_⟩ | refine ⟨(by intro s z; cases z), ?_⟩ | refine ⟨Nat.le_of_ble_eq_true rfl, ?_⟩ | refine ⟨rfl, ?_⟩ | refine iteT ?_ | refine iteF ?_ | refine ⟨_, _, rfl, ?_⟩ | refine ⟨_, _, _, rfl, ?_⟩)
        generalize hb : (!isNo (id y)) = b
        cases b
        · exact hK2 hb
        · repeat (first | refine ⟨_, rfl, ?_⟩ | refine ⟨_, _, rfl, rfl, ?_⟩ | refine ⟨_, _, _, .inr rfl, rfl, rfl, ?_⟩ | refine ⟨_, _, _, .inl rfl, rfl, rfl, ?_⟩ | refine ⟨_, .inr rfl, ?_⟩ | refine ⟨_, .inl rfl, ?_⟩ | refine ⟨(by intro s z; cases z), ?_⟩ | refine ⟨Nat.le_of_ble_eq_true rfl, ?_⟩ | refine ⟨rfl, ?_⟩ | refine iteT ?_ | refine iteF ?_ | refine ⟨_, _, rfl, ?_⟩ | refine ⟨_, _, _, rfl, ?_⟩)
          exact hK1 hb
      · have e : [] ++ (ys.filter fun y => !isNo y).map id = ns.map .int := by
          rw [List.nil_append, List.map_id]
          exact ens
        rw [e]
        repeat (first | refine ⟨_, rfl, ?_⟩ | refine ⟨_, _, rfl, rfl, ?_⟩ | refine ⟨_, _, _, .inr rfl, rfl, rfl, ?_⟩ | refine ⟨_, _, _, .inl rfl, rfl, rfl, ?_⟩ | refine ⟨_, .inr rfl, ?_⟩ | refine ⟨_, .inl rfl, ?_⟩ | refine ⟨(by intro s z; cases z), ?_⟩ | refine ⟨Nat.le_of_ble_eq_true rfl, ?_⟩ | refine ⟨rfl, ?_⟩ | refine iteT ?_ | refine iteF ?_ | refine ⟨_, _, rfl, ?_⟩ | refine ⟨_, _, _, rfl, ?_⟩)
        refine ⟨enc_ints.shaped ns, enc_ints.shaped [], ?_⟩
        rw [show PyData.eqv (.list (ns.map .int)) (.list []) = decide (ns = []) from enc_ints.eqv ns []]
        refine ⟨_, rfl, ?_⟩
        by_cases hns : ns = []
        · refine iteN (by rw [hns]; rfl) ?_
          refine hK _ ⟨n, _, _, h1, h5, .inr fun c hc => ?_, rfl⟩
          obtain ⟨y, hy, hm⟩ := hys.left (single g.2 c) (List.mem_append_left _ (List.mem_map_of_mem (List.mem_range.mpr hc)))
          have hno := told_nil (by rw [ens, hns]; rfl) y hy
          rcases hm with hm | ⟨z, hz⟩
          · exact fits_none (single_ok ok.book hc) hm.2
          · rw [hz] at hno
            cases hno
        · refine iteB (by rw [decide_eq_false hns]; rfl) ?_
          repeat (first | refine ⟨_, rfl, ?_⟩ | refine ⟨_, _, rfl, rfl, ?_⟩ | refine ⟨_, _, _, .inr rfl, rfl, rfl, ?_⟩ | refine ⟨_, _, _, .inl rfl, rfl, rfl, ?_⟩ | refine ⟨_, .inr rfl, ?_⟩ | refine ⟨_, .inl rfl, ?_⟩ | refine ⟨(by intro s z; cases z), ?_⟩ | refine ⟨Nat.le_of_ble_eq_true rfl, ?_⟩ | refine ⟨rfl, ?_⟩ | refine iteT ?_ | refine iteF ?_ | refine ⟨_, _, rfl, ?_⟩ | refine ⟨_, _, _, rfl, ?_⟩)
          refine hK _ ⟨n - 1, .dat (eN j), .dat (.list ys), by omega, by omega, ?_, ?_⟩
          · rcases hw with hw | hw
            · exact .inl (by omega)
            · exact .inr fun c hc => ⟨fun i hi => (hw c hc).places i (by omega), fun i hi => (hw c hc).ties i (by omega)⟩
          · rw [show eN (n - 1) = .int ((n : Int) - 1) by unfold eN; congr 1; omega]
            rfl
    · refine iteN (decide_eq_false (by omega)) ?_
      exact hK _ ⟨n, _, _, h1, h5, .inl (by omega), rfl⟩
  obtain ⟨n, c5, c11, h1, h5, hw, rfl⟩ := hI
  have hs : Sing g.2 n := by
    rcases hw with hw | hw
    · have e1 : n = 1 := by
        have : n + (0 + 4) ≤ 5 := hw
        omega
      rw [e1]
      exact fun c hc => fits_one ok.book hc
    · exact hw
  clear hw hn0 hn0'
  repeat (first | refine ⟨_, rfl, ?_⟩ | refine ⟨_, _, rfl, rfl, ?_⟩ | refine ⟨_, _, _, .inr rfl, rfl, rfl, ?_⟩ | refine ⟨_, _, _, .inl rfl, rfl, rfl, ?_⟩ | refine ⟨_, .inr rfl, ?_⟩ | refine ⟨_, .inl rfl, ?_⟩ | refine ⟨(by intro s z; cases z), ?_⟩ | refine ⟨Nat.le_of_ble_eq_true rfl, ?_⟩ | refine ⟨rfl, ?_⟩ | refine iteT ?_ | refine iteF ?_ | refine ⟨_, _, rfl, ?_⟩ | refine ⟨_, _, _, rfl, ?_⟩)
  refine ⟨ok.book, h1, by omega, pow_fits ok.book h1 hs, ?_⟩
  have hpw : eBook (g.2.map fun w => W (w, g.2) (n - 1)) = eBook (powB g.2 n) := rfl
  have pe := pow_each ok.book h1 (by omega) hs
  have hpl : (powB g.2 n).length = g.2.length := List.length_map ..
  rw [hpw]
  repeat (first | refine ⟨_, rfl, ?_⟩ | refine ⟨_, _, rfl, rfl, ?_⟩ | refine ⟨_, _, _, .inr rfl, rfl, rfl, ?_⟩ | refine ⟨_, _, _, .inl rfl, rfl, rfl, ?_⟩ | refine ⟨_, .inr rfl, ?_⟩ | refine ⟨_, .inl rfl, ?_⟩ | refine ⟨(by intro s z; cases z), ?_⟩ | refine ⟨Nat.le_of_ble_eq_true rfl, ?_⟩ | refine ⟨rfl, ?_⟩ | refine iteT ?_ | refine iteF ?_ | refine ⟨_, _, rfl, ?_⟩ | refine ⟨_, _, _, rfl, ?_⟩)
  refine ⟨ok.tiny.2, by rw [hpl]; exact ok.below, fun u hu => (pe u hu).2, ?_⟩
  repeat (first | refine ⟨_, rfl, ?_⟩ | refine ⟨_, _, rfl, rfl, ?_⟩ | refine ⟨_, _, _, .inr rfl, rfl, rfl, ?_⟩ | refine ⟨_, _, _, .inl rfl, rfl, rfl, ?_⟩ | refine ⟨_, .inr rfl, ?_⟩ | refine ⟨_, .inl rfl, ?_⟩ | refine ⟨(by intro s z; cases z), ?_⟩ | refine ⟨Nat.le_of_ble_eq_true rfl, ?_⟩ | refine ⟨rfl, ?_⟩ | refine iteT ?_ | refine iteF ?_ | refine ⟨_, _, rfl, ?_⟩ | refine ⟨_, _, _, rfl, ?_⟩)
  refine ⟨ok, by omega, fun d hd => ?_⟩
  repeat (first | refine ⟨_, rfl, ?_⟩ | refine ⟨_, _, rfl, rfl, ?_⟩ | refine ⟨_, _, _, .inr rfl, rfl, rfl, ?_⟩ | refine ⟨_, _, _, .inl rfl, rfl, rfl, ?_⟩ | refine ⟨_, .inr rfl, ?_⟩ | refine ⟨_, .inl rfl, ?_⟩ | refine ⟨(by intro s z; cases z), ?_⟩ | refine ⟨Nat.le_of_ble_eq_true rfl, ?_⟩ | refine ⟨rfl, ?_⟩ | refine iteT ?_ | refine iteF ?_ | refine ⟨_, _, rfl, ?_⟩ | refine ⟨_, _, _, rfl, ?_⟩)
  rcases hd with ⟨rfl, hf⟩ | ⟨z, rfl⟩
  rotate_left
  · refine iteB rfl ?_
    repeat (first | refine ⟨_, rfl, ?_⟩ | refine ⟨_, _, rfl, rfl, ?_⟩ | refine ⟨_, _, _, .inr rfl, rfl, rfl, ?_⟩ | refine ⟨_, _, _, .inl rfl, rfl, rfl, ?_⟩ | refine ⟨_, .inr rfl, ?_⟩ | refine ⟨_, .inl rfl, ?_⟩ | refine ⟨(by intro s z; cases z), ?_⟩ | refine ⟨Nat.le_of_ble_eq_true rfl, ?_⟩ | refine ⟨rfl, ?_⟩ | refine iteT ?_ | refine iteF ?_ | refine ⟨_, _, rfl, ?_⟩ | refine ⟨_, _, _, rfl, ?_⟩)
    rfl
  refine iteN rfl ?_
  repeat (first | refine ⟨_, rfl, ?_⟩ | refine ⟨_, _, rfl, rfl, ?_⟩ | refine ⟨_, _, _, .inr rfl, rfl, rfl, ?_⟩ | refine ⟨_, _, _, .inl rfl, rfl, rfl, ?_⟩ | refine ⟨_, .inr rfl, ?_⟩ | refine ⟨_, .inl rfl, ?_⟩ | refine ⟨(by intro s z; cases z), ?_⟩ | refine ⟨Nat.le_of_ble_eq_true rfl, ?_⟩ | refine ⟨rfl, ?_⟩ | refine iteT ?_ | refine iteF ?_ | refine ⟨_, _, rfl, ?_⟩ | refine ⟨_, _, _, rfl, ?_⟩)
  have fit := fits_none ok hf
  have run := run_of ok (show n ≤ 900 by omega) fit
  clear hf fit
  by_cases h60 : 60 < (lround (powB g.2 n) g.1).1
  · refine iteB (decide_eq_true (by omega)) ?_
    repeat (first | refine ⟨_, rfl, ?_⟩ | refine ⟨_, _, rfl, rfl, ?_⟩ | refine ⟨_, _, _, .inr rfl, rfl, rfl, ?_⟩ | refine ⟨_, _, _, .inl rfl, rfl, rfl, ?_⟩ | refine ⟨_, .inr rfl, ?_⟩ | refine ⟨_, .inl rfl, ?_⟩ | refine ⟨(by intro s z; cases z), ?_⟩ | refine ⟨Nat.le_of_ble_eq_true rfl, ?_⟩ | refine ⟨rfl, ?_⟩ | refine iteT ?_ | refine iteF ?_ | refine ⟨_, _, rfl, ?_⟩ | refine ⟨_, _, _, rfl, ?_⟩)
    rfl
  refine iteN (decide_eq_false (by omega)) ?_
  repeat (first | refine ⟨_, rfl, ?_⟩ | refine ⟨_, _, rfl, rfl, ?_⟩ | refine ⟨_, _, _, .inr rfl, rfl, rfl, ?_⟩ | refine ⟨_, _, _, .inl rfl, rfl, rfl, ?_⟩ | refine ⟨_, .inr rfl, ?_⟩ | refine ⟨_, .inl rfl, ?_⟩ | refine ⟨(by intro s z; cases z), ?_⟩ | refine ⟨Nat.le_of_ble_eq_true rfl, ?_⟩ | refine ⟨rfl, ?_⟩ | refine iteT ?_ | refine iteF ?_ | refine ⟨_, _, rfl, ?_⟩ | refine ⟨_, _, _, rfl, ?_⟩)
  by_cases h100 : 100 < (lround (powB g.2 n) g.1).2.length
  · refine iteB (decide_eq_true (by rw [List.length_map]; omega)) ?_
    repeat (first | refine ⟨_, rfl, ?_⟩ | refine ⟨_, _, rfl, rfl, ?_⟩ | refine ⟨_, _, _, .inr rfl, rfl, rfl, ?_⟩ | refine ⟨_, _, _, .inl rfl, rfl, rfl, ?_⟩ | refine ⟨_, .inr rfl, ?_⟩ | refine ⟨_, .inl rfl, ?_⟩ | refine ⟨(by intro s z; cases z), ?_⟩ | refine ⟨Nat.le_of_ble_eq_true rfl, ?_⟩ | refine ⟨rfl, ?_⟩ | refine iteT ?_ | refine iteF ?_ | refine ⟨_, _, rfl, ?_⟩ | refine ⟨_, _, _, rfl, ?_⟩)
    rfl
  refine iteN (decide_eq_false (by rw [List.length_map]; omega)) ?_
  repeat (first | refine ⟨_, rfl, ?_⟩ | refine ⟨_, _, rfl, rfl, ?_⟩ | refine ⟨_, _, _, .inr rfl, rfl, rfl, ?_⟩ | refine ⟨_, _, _, .inl rfl, rfl, rfl, ?_⟩ | refine ⟨_, .inr rfl, ?_⟩ | refine ⟨_, .inl rfl, ?_⟩ | refine ⟨(by intro s z; cases z), ?_⟩ | refine ⟨Nat.le_of_ble_eq_true rfl, ?_⟩ | refine ⟨rfl, ?_⟩ | refine iteT ?_ | refine iteF ?_ | refine ⟨_, _, rfl, ?_⟩ | refine ⟨_, _, _, rfl, ?_⟩)
  refine ⟨g, powB g.2 n, n, ixG g n, rfl, renOk_of run (pow_ok ok h1) (hs.run ok.book (by omega)), ?_⟩
  have hm := made_places run h1 hs
  have hren : (renF g n (ixG g n)).length = (W g n).1 := by
    have := (renF_perm ok n).length_eq
    rwa [List.length_range] at this
  have h400 := run.fit.places n (Nat.le_refl _)
  have er : ∀ k : Nat, k ≤ 400 → RgOk 0 (k : Int) ∧ rgD 0 (k : Int) = (List.range k).map eN := fun k hk => ⟨RgOk.of_le (by omega) (by omega) (by omega) (by omega), by
    have := rgD_nat 0 k
    simp at this
    exact this⟩
  repeat (first | refine ⟨_, rfl, ?_⟩ | refine ⟨_, _, rfl, rfl, ?_⟩ | refine ⟨_, _, _, .inr rfl, rfl, rfl, ?_⟩ | refine ⟨_, _, _, .inl rfl, rfl, rfl, ?_⟩ | refine ⟨_, .inr rfl, ?_⟩ | refine ⟨_, .inl rfl, ?_⟩ | refine ⟨(by intro s z; cases z), ?_⟩ | refine ⟨Nat.le_of_ble_eq_true rfl, ?_⟩ | refine ⟨rfl, ?_⟩ | refine iteT ?_ | refine iteF ?_ | refine ⟨_, _, rfl, ?_⟩ | refine ⟨_, _, _, rfl, ?_⟩)
  refine ⟨sortOkN (by omega), ?_⟩
  rw [srtD_map, ren_sorted ok]
  repeat (first | refine ⟨_, rfl, ?_⟩ | refine ⟨_, _, rfl, rfl, ?_⟩ | refine ⟨_, _, _, .inr rfl, rfl, rfl, ?_⟩ | refine ⟨_, _, _, .inl rfl, rfl, rfl, ?_⟩ | refine ⟨_, .inr rfl, ?_⟩ | refine ⟨_, .inl rfl, ?_⟩ | refine ⟨(by intro s z; cases z), ?_⟩ | refine ⟨Nat.le_of_ble_eq_true rfl, ?_⟩ | refine ⟨rfl, ?_⟩ | refine iteT ?_ | refine iteF ?_ | refine ⟨_, _, rfl, ?_⟩ | refine ⟨_, _, _, rfl, ?_⟩)
  rw [hm]
  refine ⟨(er _ h400).1, ?_⟩
  rw [(er _ h400).2]
  repeat (first | refine ⟨_, rfl, ?_⟩ | refine ⟨_, _, rfl, rfl, ?_⟩ | refine ⟨_, _, _, .inr rfl, rfl, rfl, ?_⟩ | refine ⟨_, _, _, .inl rfl, rfl, rfl, ?_⟩ | refine ⟨_, .inr rfl, ?_⟩ | refine ⟨_, .inl rfl, ?_⟩ | refine ⟨(by intro s z; cases z), ?_⟩ | refine ⟨Nat.le_of_ble_eq_true rfl, ?_⟩ | refine ⟨rfl, ?_⟩ | refine iteT ?_ | refine iteF ?_ | refine ⟨_, _, rfl, ?_⟩ | refine ⟨_, _, _, rfl, ?_⟩)
  refine ⟨enc_nats.shaped _, enc_nats.shaped _, _, rfl, iteN (by rw [enc_nats.eqv_self]; rfl) ?_⟩
  repeat (first | refine ⟨_, rfl, ?_⟩ | refine ⟨_, _, rfl, rfl, ?_⟩ | refine ⟨_, _, _, .inr rfl, rfl, rfl, ?_⟩ | refine ⟨_, _, _, .inl rfl, rfl, rfl, ?_⟩ | refine ⟨_, .inr rfl, ?_⟩ | refine ⟨_, .inl rfl, ?_⟩ | refine ⟨(by intro s z; cases z), ?_⟩ | refine ⟨Nat.le_of_ble_eq_true rfl, ?_⟩ | refine ⟨rfl, ?_⟩ | refine iteT ?_ | refine iteF ?_ | refine ⟨_, _, rfl, ?_⟩ | refine ⟨_, _, _, rfl, ?_⟩)
  have hmw := made_ok run h1 hs (by omega)
  have hl : eWeb ((lround (powB g.2 n) g.1).1, sortE eTie ((lround (powB g.2 n) g.1).2.map fun t => ((renF g n (ixG g n)).getD t.1 0, (renF g n (ixG g n)).getD t.2.1 0, t.2.2))) = eWeb (W g n) := congrArg eWeb (ledF_made run h1 hs)
  have sw := show_web (run_webOk run)
  rw [cut_take, ← List.map_take, ren_start]
  refine ⟨(er _ (by have := ok.tiny; omega)).1, ?_⟩
  rw [(er _ (by have := ok.tiny; omega)).2]
  refine ⟨enc_row.shaped _, enc_row.shaped _, _, rfl, iteN (by rw [show PyData.eqv (.tuple ((List.range g.1.1).map eN)) (.tuple ((List.range g.1.1).map eN)) = true from enc_row.eqv_self _]; rfl) ?_⟩
  repeat (first | refine ⟨_, rfl, ?_⟩ | refine ⟨_, _, rfl, rfl, ?_⟩ | refine ⟨_, _, _, .inr rfl, rfl, rfl, ?_⟩ | refine ⟨_, _, _, .inl rfl, rfl, rfl, ?_⟩ | refine ⟨_, .inr rfl, ?_⟩ | refine ⟨_, .inl rfl, ?_⟩ | refine ⟨(by intro s z; cases z), ?_⟩ | refine ⟨Nat.le_of_ble_eq_true rfl, ?_⟩ | refine ⟨rfl, ?_⟩ | refine iteT ?_ | refine iteF ?_ | refine ⟨_, _, rfl, ?_⟩ | refine ⟨_, _, _, rfl, ?_⟩)
  refine ⟨by omega, fun t ht => ?_, ?_⟩
  · rw [hren, ← hm]
    exact ⟨(hmw.ties t ht).a, (hmw.ties t ht).b⟩
  rw [hl]
  refine ⟨_, rfl, sw, ?_⟩
  repeat (first | refine ⟨_, rfl, ?_⟩ | refine ⟨_, _, rfl, rfl, ?_⟩ | refine ⟨_, _, _, .inr rfl, rfl, rfl, ?_⟩ | refine ⟨_, _, _, .inl rfl, rfl, rfl, ?_⟩ | refine ⟨_, .inr rfl, ?_⟩ | refine ⟨_, .inl rfl, ?_⟩ | refine ⟨(by intro s z; cases z), ?_⟩ | refine ⟨Nat.le_of_ble_eq_true rfl, ?_⟩ | refine ⟨rfl, ?_⟩ | refine iteT ?_ | refine iteF ?_ | refine ⟨_, _, rfl, ?_⟩ | refine ⟨_, _, _, rfl, ?_⟩)
  refine ⟨run.ok, run.n9, run.fit, ?_⟩
  refine ⟨_, rfl, sw, ?_⟩
  refine ⟨_, _, rfl, rfl, _, rfl, iteN (by show (!decide (PyData.shown (eWeb (W g n)) = PyData.shown (eWeb (W g n)))) = false; simp) ?_⟩
  repeat (first | refine ⟨_, rfl, ?_⟩ | refine ⟨_, _, rfl, rfl, ?_⟩ | refine ⟨_, _, _, .inr rfl, rfl, rfl, ?_⟩ | refine ⟨_, _, _, .inl rfl, rfl, rfl, ?_⟩ | refine ⟨_, .inr rfl, ?_⟩ | refine ⟨_, .inl rfl, ?_⟩ | refine ⟨(by intro s z; cases z), ?_⟩ | refine ⟨Nat.le_of_ble_eq_true rfl, ?_⟩ | refine ⟨rfl, ?_⟩ | refine iteT ?_ | refine iteF ?_ | refine ⟨_, _, rfl, ?_⟩ | refine ⟨_, _, _, rfl, ?_⟩)
  refine ⟨goOk_of run, ?_⟩
  refine ⟨_, rfl, ?_⟩
  refine iteN rfl ?_
  repeat (first | refine ⟨_, rfl, ?_⟩ | refine ⟨_, _, rfl, rfl, ?_⟩ | refine ⟨_, _, _, .inr rfl, rfl, rfl, ?_⟩ | refine ⟨_, _, _, .inl rfl, rfl, rfl, ?_⟩ | refine ⟨_, .inr rfl, ?_⟩ | refine ⟨_, .inl rfl, ?_⟩ | refine ⟨(by intro s z; cases z), ?_⟩ | refine ⟨Nat.le_of_ble_eq_true rfl, ?_⟩ | refine ⟨rfl, ?_⟩ | refine iteT ?_ | refine iteF ?_ | refine ⟨_, _, rfl, ?_⟩ | refine ⟨_, _, _, rfl, ?_⟩)
  have e2 : ((n : Int) = 1) ↔ n = 1 := by omega
  have n9 : n ≤ 900 := by omega
  have l6 : (lround (powB g.2 n) g.1).2.length ≤ 600 := by omega
  refine @byOnce ?Kp _ ?h (fun fin => ?f)
  case f =>
    by_cases e1 : n = 1
    rotate_left
    · refine iteN (decide_eq_false fun z => e1 (e2.mp z)) ?_
      exact fin
    · refine iteB (decide_eq_true (e2.mpr e1)) ?_
      repeat (first | refine ⟨_, rfl, ?_⟩ | refine ⟨_, _, rfl, rfl, ?_⟩ | refine ⟨_, _, _, .inr rfl, rfl, rfl, ?_⟩ | refine ⟨_, _, _, .inl rfl, rfl, rfl, ?_⟩ | refine ⟨_, .inr rfl, ?_⟩ | refine ⟨_, .inl rfl, ?_⟩ | refine ⟨(by intro s z; cases z), ?_⟩ | refine ⟨Nat.le_of_ble_eq_true rfl, ?_⟩ | refine ⟨rfl, ?_⟩ | refine iteT ?_ | refine iteF ?_ | refine ⟨_, _, rfl, ?_⟩ | refine ⟨_, _, _, rfl, ?_⟩)
      refine ⟨ok.start, pow_book ok.book h1 n9 hs, pow_below ok, pow_room run h1 hs l6, ?_⟩
      rw [round_lround]
      refine ⟨_, rfl, show_web hmw, ?_⟩
      refine ⟨_, rfl, ?_⟩
      refine ⟨_, rfl, show_web hmw, ?_⟩
      refine ⟨_, _, rfl, rfl, _, rfl, ?_⟩
      refine iteN (by show (!decide (PyData.shown (eWeb (lround (powB g.2 n) g.1)) = PyData.shown (eWeb (lround (powB g.2 n) g.1)))) = false; simp) ?_
      exact fin
  case h =>
    repeat (first | refine ⟨_, rfl, ?_⟩ | refine ⟨_, _, rfl, rfl, ?_⟩ | refine ⟨_, _, _, .inr rfl, rfl, rfl, ?_⟩ | refine ⟨_, _, _, .inl rfl, rfl, rfl, ?_⟩ | refine ⟨_, .inr rfl, ?_⟩ | refine ⟨_, .inl rfl, ?_⟩ | refine ⟨(by intro s z; cases z), ?_⟩ | refine ⟨Nat.le_of_ble_eq_true rfl, ?_⟩ | refine ⟨rfl, ?_⟩ | refine iteT ?_ | refine iteF ?_ | refine ⟨_, _, rfl, ?_⟩ | refine ⟨_, _, _, rfl, ?_⟩)
    have pl3 : (powB g.2 n).length ≤ 3 := by omega
    refine lc_filter (enc := eWeb) (f := eWeb) (p := fun u => decide (20 < u.1) || decide (40 < u.2.length)) (powB g.2 n) [] (by simp; omega) (fun u hu K1 K2 hK1 hK2 => ?_) ?_
    · repeat (first | refine ⟨_, rfl, ?_⟩ | refine ⟨_, _, rfl, rfl, ?_⟩ | refine ⟨_, _, _, .inr rfl, rfl, rfl, ?_⟩ | refine ⟨_, _, _, .inl rfl, rfl, rfl, ?_⟩ | refine ⟨_, .inr rfl, ?_⟩ | refine ⟨_, .inl rfl, ?_⟩ | refine ⟨(by intro s z; cases z), ?_⟩ | refine ⟨Nat.le_of_ble_eq_true rfl, ?_⟩ | refine ⟨rfl, ?_⟩ | refine iteT ?_ | refine iteF ?_ | refine ⟨_, _, rfl, ?_⟩ | refine ⟨_, _, _, rfl, ?_⟩)
      by_cases u20 : 20 < u.1
      · refine iteB (decide_eq_true (by omega)) ?_
        repeat (first | refine ⟨_, rfl, ?_⟩ | refine ⟨_, _, rfl, rfl, ?_⟩ | refine ⟨_, _, _, .inr rfl, rfl, rfl, ?_⟩ | refine ⟨_, _, _, .inl rfl, rfl, rfl, ?_⟩ | refine ⟨_, .inr rfl, ?_⟩ | refine ⟨_, .inl rfl, ?_⟩ | refine ⟨(by intro s z; cases z), ?_⟩ | refine ⟨Nat.le_of_ble_eq_true rfl, ?_⟩ | refine ⟨rfl, ?_⟩ | refine iteT ?_ | refine iteF ?_ | refine ⟨_, _, rfl, ?_⟩ | refine ⟨_, _, _, rfl, ?_⟩)
        exact hK1 (by rw [decide_eq_true u20]; rfl)
      · refine iteN (decide_eq_false (by omega)) ?_
        repeat (first | refine ⟨_, rfl, ?_⟩ | refine ⟨_, _, rfl, rfl, ?_⟩ | refine ⟨_, _, _, .inr rfl, rfl, rfl, ?_⟩ | refine ⟨_, _, _, .inl rfl, rfl, rfl, ?_⟩ | refine ⟨_, .inr rfl, ?_⟩ | refine ⟨_, .inl rfl, ?_⟩ | refine ⟨(by intro s z; cases z), ?_⟩ | refine ⟨Nat.le_of_ble_eq_true rfl, ?_⟩ | refine ⟨rfl, ?_⟩ | refine iteT ?_ | refine iteF ?_ | refine ⟨_, _, rfl, ?_⟩ | refine ⟨_, _, _, rfl, ?_⟩)
        by_cases u40 : 40 < u.2.length
        · have e40 : decide ((40 : Int) < ((List.map eTie u.2).length : Nat)) = true := decide_eq_true (by rw [List.length_map]; omega)
          rw [e40]
          repeat (first | refine ⟨_, rfl, ?_⟩ | refine ⟨_, _, rfl, rfl, ?_⟩ | refine ⟨_, _, _, .inr rfl, rfl, rfl, ?_⟩ | refine ⟨_, _, _, .inl rfl, rfl, rfl, ?_⟩ | refine ⟨_, .inr rfl, ?_⟩ | refine ⟨_, .inl rfl, ?_⟩ | refine ⟨(by intro s z; cases z), ?_⟩ | refine ⟨Nat.le_of_ble_eq_true rfl, ?_⟩ | refine ⟨rfl, ?_⟩ | refine iteT ?_ | refine iteF ?_ | refine ⟨_, _, rfl, ?_⟩ | refine ⟨_, _, _, rfl, ?_⟩)
          exact hK1 (by rw [decide_eq_true u40, Bool.or_true])
        · have e40 : decide ((40 : Int) < ((List.map eTie u.2).length : Nat)) = false := decide_eq_false (by rw [List.length_map]; omega)
          rw [e40]
          exact hK2 (by rw [decide_eq_false u20, decide_eq_false u40]; rfl)
    · rw [List.nil_append]
      generalize hus : (powB g.2 n).filter (fun u => decide (20 < u.1) || decide (40 < u.2.length)) = us
      repeat (first | refine ⟨_, rfl, ?_⟩ | refine ⟨_, _, rfl, rfl, ?_⟩ | refine ⟨_, _, _, .inr rfl, rfl, rfl, ?_⟩ | refine ⟨_, _, _, .inl rfl, rfl, rfl, ?_⟩ | refine ⟨_, .inr rfl, ?_⟩ | refine ⟨_, .inl rfl, ?_⟩ | refine ⟨(by intro s z; cases z), ?_⟩ | refine ⟨Nat.le_of_ble_eq_true rfl, ?_⟩ | refine ⟨rfl, ?_⟩ | refine iteT ?_ | refine iteF ?_ | refine ⟨_, _, rfl, ?_⟩ | refine ⟨_, _, _, rfl, ?_⟩)
      refine ⟨enc_webs.shaped us, enc_webs.shaped [], ?_⟩
      rw [show PyData.eqv (.list (us.map eWeb)) (.list []) = decide (us = []) from enc_webs.eqv us []]
      refine ⟨_, rfl, ?_⟩
      by_cases hns : us = []
      · refine iteN (by rw [hns]; rfl) ?_
        repeat (first | refine ⟨_, rfl, ?_⟩ | refine ⟨_, _, rfl, rfl, ?_⟩ | refine ⟨_, _, _, .inr rfl, rfl, rfl, ?_⟩ | refine ⟨_, _, _, .inl rfl, rfl, rfl, ?_⟩ | refine ⟨_, .inr rfl, ?_⟩ | refine ⟨_, .inl rfl, ?_⟩ | refine ⟨(by intro s z; cases z), ?_⟩ | refine ⟨Nat.le_of_ble_eq_true rfl, ?_⟩ | refine ⟨rfl, ?_⟩ | refine iteT ?_ | refine iteF ?_ | refine ⟨_, _, rfl, ?_⟩ | refine ⟨_, _, _, rfl, ?_⟩)
        exact ⟨degOk_of ok.book h1 (hs.run ok.book n9), rfl⟩
      · refine iteB (by rw [decide_eq_false hns]; rfl) ?_
        repeat (first | refine ⟨_, rfl, ?_⟩ | refine ⟨_, _, rfl, rfl, ?_⟩ | refine ⟨_, _, _, .inr rfl, rfl, rfl, ?_⟩ | refine ⟨_, _, _, .inl rfl, rfl, rfl, ?_⟩ | refine ⟨_, .inr rfl, ?_⟩ | refine ⟨_, .inl rfl, ?_⟩ | refine ⟨(by intro s z; cases z), ?_⟩ | refine ⟨Nat.le_of_ble_eq_true rfl, ?_⟩ | refine ⟨rfl, ?_⟩ | refine iteT ?_ | refine iteF ?_ | refine ⟨_, _, rfl, ?_⟩ | refine ⟨_, _, _, rfl, ?_⟩)
        rfl
end
end L3
namespace L3
open PySem L2
open PySem.Spec
section
variable {P : Program} {w : World} {K : PySem.W.Frag} {mg : Str → Option Value} {base : Heap} {T : List (Addr × Str)}
/-- the law is kept at every script -/
def spLaw (T : List (Addr × Str)) (K : PySem.W.Frag) : Sp := fun vs H Q _ => ∃ (a : Addr) (ns : List Int), vs = [.ref a] ∧ SqL K H a (ns.map V.int) ∧ LamX.Tabs T H ∧ ∀ H', Q (.bl true) H'
theorem lawE_at {p : Addr × Addr} {a : Addr} {i : Nat} {c : Cell} (h : (lawE p)[i]? = some c) : c = .un ∨ (i = 1 ∧ c = .val (.ref p.1)) := by
  match i, h with
  | 0, h => exact .inl (Option.some.inj h).symm
  | 1, h => exact .inr ⟨rfl, (Option.some.inj h).symm⟩
  | k + 2, h =>
    have e : (lawE p)[k + 2]? = (List.replicate 13 Cell.un)[k]? := rfl
    rw [e, List.getElem?_replicate] at h
    split at h
    · exact .inl (Option.some.inj h).symm
    · cases h
theorem ok_law (N : Nms mg) (h__law_deck : Has P w K mg base "_law_deck" 1 ["_law_script"] (spDeck K))
  (h__law_garden : Has P w K mg base "_law_garden" 6 ["_law_deck_here"] (spD T phi__law_garden)) (h_book_power : Has P w K mg base "book_power" 11 ["book", "n"] (sp3 ⟨T, none⟩ phi_book_power)) (h__law_round : Has P w K mg base "_law_round" 2 ["_law_web_here", "_law_book_here"] (sp3 ⟨T, none⟩ phi__law_round)) (h__law_renaming : Has P w K mg base "_law_renaming" 13 ["_law_garden_here", "_law_power", "_law_n"] (sp3 ⟨T, none⟩ phi__law_renaming)) (h__law_have_degrees : HasG P w K mg base "_law_have_degrees" 13 ["_law_book_here", "_law_power", "_law_n"] (sp3 ⟨T, none⟩ phi__law_have_degrees)) (h__law_draw : Has P w K mg base "_law_draw" 1 ["_law_deck_here", "_law_many_here"] (spD T phi__law_draw)) (h__law_most : Has P w K mg base "_law_most" 3 ["_law_garden_here", "_law_n"] (sp3 ⟨T, none⟩ phi__law_most)) (h__law_go_on : HasG P w K mg base "_law_go_on" 13 ["_law_garden_here", "_law_n"] (sp3 ⟨T, none⟩ phi__law_go_on)) (h__law_led : Has P w K mg base "_law_led" 1 ["_law_web_here", "_law_renaming_here"] (sp3 ⟨T, none⟩ phi__law_led)) (h_grown : Has P w K mg base "grown" 11 ["garden", "n"] (sp3 ⟨T, none⟩ phi_grown)) (h_one_round : Has P w K mg base "one_round" 7 ["web", "book"] (sp3 ⟨T, none⟩ phi_one_round))
  {f : Addr} {fd : FuncData} (F : Fun K "law" "law" s_law f fd) : FnG P w K mg base 14 f fd ["_law_script"] (spLaw T K) := by
  refine fnG_of F sc_law (fun vs H Q E h => by obtain ⟨a, ns, rfl, _⟩ := h; rfl) fun cdv A outer s H vs Q E hg hr hsp => ?_
  obtain ⟨t, τ, h, hτ⟩ := law_ps (T := T) N h__law_garden h_book_power h__law_round h__law_renaming h__law_have_degrees h__law_draw h__law_most h__law_go_on h__law_led h_grown h_one_round (f := f) (cdv := cdv) (A := A) (outer := outer) (s := s) (H := H) (E := E) hg hr
  obtain ⟨f', fd', F', hm, hk, hb⟩ := h__law_deck
  have nd := sc_law.nd
  refine ⟨_, pss_cons (ps_set nd (i := 1) rfl (.inl rfl) (pe_call F' (hr.mono (by decide)) rfl hm hk hb .nil pass0 (pa_cons (pe_var (i := 0) rfl (.inl rfl) (by decide) (by decide)) pa_nil rfl) (by decide) rfl rfl) (by rfl) (.inl rfl)) (h (0, 0)).ps, ?_⟩
  obtain ⟨a, ns, rfl, hS, hT, hQ⟩ := hsp
  refine ⟨_, rfl, a, ns, rfl, hS, fun H1 p cs mx ext n1 n2 ne le h1 h2 => ?_⟩
  have dW : ∀ b, C3.W ⟨T, some p⟩ b → ∃ o, H1 b = some o ∧ ∀ ps, o ≠ .tbl ps := fun b ⟨q, e, z⟩ => by
    cases e
    rcases z with z | z
    · exact ⟨_, by rw [z]; exact h1, by intro _ y; cases y⟩
    · exact ⟨_, by rw [z]; exact h2, by intro _ y; cases y⟩
  refine (h p).snd (C3.W ⟨T, some p⟩) [] H1 _ (lawE p) { nx := fun _ => False, rt := fun d => d = .bool true } _ (fun _ z => z) ⟨fun _ => none, ⟨⟨fun b z => .inl z, fun b z => dW b (z.elim id fun ⟨_, z⟩ => nomatch z)⟩, ⟨hT.ext ext, fun q e => ?_⟩, rfl, fun i c hc => ?_, (fun i b z => nomatch z), (fun i j b z => nomatch z)⟩, (fun i b z => nomatch z), fun q hq => nomatch hq⟩ ⟨fun _ _ _ _ z => False.elim z, fun v H2 d hd _ _ _ r => ?_, fun _ _ _ _ z => False.elim z, fun _ _ _ _ z => False.elim z⟩ (hτ p)
  · cases e
    exact ⟨cs, mx, 0, le, ne, h1, h2⟩
  · rcases lawE_at (a := a) hc with rfl | ⟨rfl, rfl⟩
    · trivial
    · rfl
  · subst hd
    cases r
    exact hQ H2
end
end L3
namespace L3
open PySem L2
open PySem.Spec
open PyProof.Rows
open LamX (TabB Tabs)
/-! ### the end: a law's call, where the guards are none and tables are tracked -/
abbrev noTab : Obj := { cls := .none, data := .fields #[] }
abbrev lsObj (us : List Value) : Obj := { cls := .type "list", data := .seq us.toArray }
/-- what is tracked at the start: tables, and perhaps the script -/
def trk0 (ts : List Addr) (a : Addr) (z : Option HO) : Hp := fun b => if b ∈ ts then some (.tbl #[]) else if b = a then z else none
theorem trk0_some {ts : List Addr} {a b : Addr} {z : Option HO} {u : HO} (h : trk0 ts a z b = some u) : (b ∈ ts ∧ u = .tbl #[]) ∨ (b ∉ ts ∧ b = a ∧ z = some u) := by
  unfold trk0 at h
  by_cases h1 : b ∈ ts
  · rw [if_pos h1] at h
    exact .inl ⟨h1, (Option.some.inj h).symm⟩
  · rw [if_neg h1] at h
    by_cases h2 : b = a
    · rw [if_pos h2] at h
      exact .inr ⟨h1, h2, h⟩
    · rw [if_neg h2] at h
      cases h
structure Begin (h : Heap) (ts : List Addr) (a : Addr) (us : List Value) : Prop where
  tab : ∀ b ∈ ts, h.get? b = some noTab
  lst : h.get? a = some (lsObj us)
section
variable {h : Heap} {ts : List Addr} {a : Addr} {us : List Value} {z : Option HO}
theorem Begin.off (B : Begin h ts a us) : a ∉ ts := fun y => by
  have e := B.tab a y
  rw [B.lst] at e
  have e2 : (Data.seq us.toArray 0 : Data) = .fields #[] := congrArg Obj.data (Option.some.inj e)
  cases e2
theorem Begin.plain (B : Begin h ts a us) {b : Addr} {o : Obj} (e : h.get? b = some o) (h1 : ∀ us n, o.data ≠ .seq us n) (h2 : o.data ≠ .fields #[]) : trk0 ts a z b = none := by
  cases q : trk0 ts a z b with
  | none => rfl
  | some u =>
    rcases trk0_some q with ⟨y, _⟩ | ⟨_, y, _⟩
    · rw [B.tab b y] at e
      obtain rfl := Option.some.inj e
      exact absurd rfl h2
    · rw [y, B.lst] at e
      obtain rfl := Option.some.inj e
      exact absurd rfl (h1 _ _)
theorem Begin.kept (B : Begin h ts a us) {b : Addr} {o : Obj} (e : h.get? b = some o) (h1 : ∀ us n, o.data ≠ .seq us n) (h2 : o.data ≠ .fields #[]) : (hidT h (trk0 ts a z)).get? b = some o := hidT_get e (B.plain e h1 h2)
theorem Begin.ns (B : Begin h ts a us) {b : Addr} {m : Str → Option Value} (n : h.Ns b m) : (hidT h (trk0 ts a z)).Ns b m := by
  obtain ⟨o, es, ep, e, d, r⟩ := n
  exact ⟨o, es, ep, B.kept e (fun _ _ y => by rw [d] at y; cases y) (fun y => by rw [d] at y; cases y), d, r⟩
theorem Begin.code (B : Begin h ts a us) {c P : Addr} (C : PySem.W.CodeHd h c P) : PySem.W.CodeHd (hidT h (trk0 ts a z)) c P := by
  obtain ⟨o, fs, f1, f2, f3, f4, f5, f6, f7, e, r1, r2, r3, r⟩ := C
  refine ⟨o, fs, f1, f2, f3, f4, f5, f6, f7, B.kept e (fun _ _ y => by rw [r2] at y; cases y) (fun y => ?_), r1, r2, r3, r⟩
  rw [r2] at y
  obtain rfl := Data.fields.inj y
  cases r3
end
section
variable {P : Program} {w : World} {K : PySem.W.Frag} {mg mb : Str → Option Value} {k : Nat} {fa a : Addr} {cs : List (Addr × Addr)} {fd : FuncData} {x : Str} {sp : Sp} {s₁ : Shared} {us : List Value} {ns : List Int}
structure AtCall (K : PySem.W.Frag) (mg mb : Str → Option Value) (cs : List (Addr × Addr)) (s₁ : Shared) (a : Addr) (us : List Value) : Prop where
  kin : K.In s₁.heap
  main : s₁.heap.Ns mainGlobals mg
  blt : s₁.heap.Ns builtinsNs mb
  boot : ∀ x : Str, x ≠ "__name__" → mb x = bootBuiltins x
  lim : s₁.heap.NoLimit
  gens : s₁.gens = #[]
  beg : Begin s₁.heap (cs.map (·.2)) a us
  not : ∀ p ∈ cs, K.lookup p.2 = none
  code : ∀ p ∈ cs, PySem.W.CodeHd s₁.heap p.1 p.2
  bm : ∃ (bm : Addr) (ob : Obj), mg "__builtins__" = some (.ref bm) ∧ bm ≠ builtinsNs ∧ s₁.heap.get? bm = some ob ∧ ob.cls = .type "module" ∧ ob.dict = some builtinsNs ∧ ob.data = .plain
theorem AtCall.tabB (C : AtCall K mg mb cs s₁ a us) {z : Option HO} {p : Addr × Addr} (hp : p ∈ cs) : TabB (hidT s₁.heap (trk0 (cs.map (·.2)) a z)) mg p.1 p.2 := by
  have hT := C.beg.tab p.2 (List.mem_map_of_mem hp)
  obtain ⟨om, es, ep, em, dm, _⟩ := C.main
  refine ⟨C.beg.code (C.code p hp), ?_, fun y => ?_⟩
  · obtain ⟨b, o, b1, b2, b3, b4, b5, b6⟩ := C.bm
    refine ⟨b, o, b1, b2, fun y => ?_, fun y => ?_, C.beg.kept b3 (fun _ _ y => by rw [b6] at y; cases y) (fun y => by rw [b6] at y; cases y), b4, b5, b6⟩
    · subst y
      rw [em] at b3
      obtain rfl := Option.some.inj b3
      rw [dm] at b6
      cases b6
    · rw [y, hT] at b3
      obtain rfl := Option.some.inj b3
      cases b6
  · rw [y, hT] at em
    obtain rfl := Option.some.inj em
    cases dm
/-- the call, where z tells whether the script is tracked -/
theorem AtCall.run (C : AtCall K mg mb cs s₁ a us) {z : Option HO} (hz : ∀ u, z = some u → u = .frz (lsObj us) (.lst (ns.map V.int)) ∧ K.lookup a = none) (hi : PyProof.Rows.IntsAre us ns) (hl : ns.length ≤ sizeLine) (hr : Room k callerA)
    (F : ∀ base : Heap, K.In base → base.Ns mainGlobals mg → (∀ p ∈ cs, TabB base mg p.1 p.2) → FnG P w K mg base k fa fd [x] sp) (hb : ∀ (s : Shared) (u : Value), BindsTo s fd ⟨[u], []⟩ [(x, u)])
    (hsp : sp [.ref a] (trk0 (cs.map (·.2)) a z) (fun v _ => v = .bl true) fun _ _ _ => False) :
    codeAny (model P w) callerA (.call (.ref fa) ⟨[.ref a], []⟩) (fun r s' => r = .ok (.ret (.bool true)) ∧ OldK s₁.heap s'.heap ∧ s'.os = s₁.os ∧ AllBare s'.gens) s₁ := by
  have rv := vals_ints hi
  have kin : K.In (hidT s₁.heap (trk0 (cs.map (·.2)) a z)) := fun b o e => by
    refine hidT_get (C.kin b o e) ?_
    cases q : trk0 (cs.map (·.2)) a z b with
    | none => rfl
    | some u =>
      rcases trk0_some q with ⟨y, _⟩ | ⟨_, y, yz⟩
      · obtain ⟨p, hp, ep⟩ := List.mem_map.mp y
        rw [← ep, C.not p hp] at e
        cases e
      · rw [y, (hz u yz).2] at e
        cases e
  have hok : HOk P w (trk0 (cs.map (·.2)) a z) s₁.heap := fun b u q => by
    rcases trk0_some q with ⟨y, rfl⟩ | ⟨_, rfl, yz⟩
    · exact C.beg.tab b y
    · obtain ⟨rfl, _⟩ := hz u yz
      exact ⟨C.beg.lst, by rw [List.length_map]; exact hl, us, 0, rv, C.beg.lst⟩
  obtain ⟨mc, l1, l2⟩ := C.lim
  have e0 : Env0 P w K mg (hidT s₁.heap (trk0 (cs.map (·.2)) a z)) callerA [] s₁ (trk0 (cs.map (·.2)) a z) := {
    frames := rfl
    mod := ⟨kin, C.beg.ns C.main, ⟨mb, C.beg.ns C.blt, C.boot⟩, mc, C.beg.ns l1, l2⟩
    bs := fun b o e => of_hidT e
    bsz := Nat.le_of_eq (hidT_size _ _)
    funs := trivial
    frf := fun b y => nomatch y
    hok := hok
    bare := .of_eq C.gens }
  refine codeAny_mono ((F _ kin (C.beg.ns C.main) fun p hp => C.tabB hp).run callerA [] s₁ _ ⟨[.ref a], []⟩ [.ref a] [.ref a] _ _ rfl hr e0 (hb s₁ (.ref a)) (.cons rfl .nil) hsp) fun r s' y => ?_
  rcases r with e | fl
  · exact False.elim y
  · cases fl with
    | next => exact False.elim y
    | brk => exact False.elim y
    | cont => exact False.elim y
    | ret u =>
      obtain ⟨v, H', os, bare, un, hok', r', q⟩ := y
      obtain rfl : v = .bl true := q
      obtain rfl : u = Value.bool true := r'
      have more : ∀ p ∈ cs, ∃ ps : Array Value, s'.heap.get? p.2 = some { cls := .none, data := .fields ps } := fun p hp => by
        obtain ⟨m, hm⟩ := un.tbls p.2 #[] (if_pos (List.mem_map_of_mem hp))
        exact ⟨_, hok' p.2 _ hm⟩
      have stay : ∀ b o, b ∉ cs.map (·.2) → s₁.heap.get? b = some o → s'.heap.get? b = some o := fun b o nb e => by
        cases q : trk0 (cs.map (·.2)) a z b with
        | none => exact un.keep b o e q (fun y => nomatch y) (fun y => nomatch y)
        | some u =>
          rcases trk0_some q with ⟨y, _⟩ | ⟨_, rfl, yz⟩
          · exact absurd y nb
          · obtain ⟨rfl, _⟩ := hz u yz
            rw [C.beg.lst] at e
            obtain rfl := Option.some.inj e
            exact (hok' b _ (un.frzs b _ _ q)).1
      refine ⟨rfl, ⟨fun b o e => ?_, fun b o e => ?_⟩, os, bare⟩
      · by_cases nb : b ∈ cs.map (·.2)
        · obtain ⟨p, hp, rfl⟩ := List.mem_map.mp nb
          obtain ⟨ps, hps⟩ := more p hp
          have hT := C.beg.tab p.2 nb
          rw [hT] at e
          obtain rfl := Option.some.inj e
          exact .inr (.inl ⟨((C.code p hp).tab hT).isCodeTable, rfl, #[], ps, rfl, by rw [Array.empty_append]; exact hps⟩)
        · exact .inl (stay b o nb e)
      · by_cases nb : b ∈ cs.map (·.2)
        · obtain ⟨p, hp, rfl⟩ := List.mem_map.mp nb
          exact ⟨_, (more p hp).choose_spec⟩
        · exact ⟨o, stay b o nb e⟩
theorem AtCall.ends (C : AtCall K mg mb cs s₁ a us) (hi : PyProof.Rows.IntsAre us ns) (hl : ns.length ≤ sizeLine) (hr : Room k callerA)
    (F : ∀ base : Heap, K.In base → base.Ns mainGlobals mg → (∀ p ∈ cs, TabB base mg p.1 p.2) → FnG P w K mg base k fa fd [x] sp) (hb : ∀ (s : Shared) (u : Value), BindsTo s fd ⟨[u], []⟩ [(x, u)])
    (hsp : ∀ H : Hp, (∀ p ∈ cs, H p.2 = some (.tbl #[])) → SqL K H a (ns.map V.int) → sp [.ref a] H (fun v _ => v = .bl true) fun _ _ _ => False) :
    codeAny (model P w) callerA (.call (.ref fa) ⟨[.ref a], []⟩) (fun r s' => r = .ok (.ret (.bool true)) ∧ OldK s₁.heap s'.heap ∧ s'.os = s₁.os ∧ AllBare s'.gens) s₁ := by
  have tb : ∀ {z : Option HO}, ∀ p ∈ cs, trk0 (cs.map (·.2)) a z p.2 = some (.tbl #[]) := fun p hp => if_pos (List.mem_map_of_mem hp)
  have hle := hi.length
  cases q : K.lookup a with
  | some o =>
    have e := C.kin a o q
    rw [C.beg.lst] at e
    obtain rfl := Option.some.inj e
    exact C.run (z := none) (fun u y => nomatch y) hi hl hr F hb (hsp _ tb (.inr ⟨_, us.toArray, 0, q, rfl, rfl, rfl, by rw [List.size_toArray, hle]; exact hl, vals_ints hi⟩))
  | none =>
    refine C.run (z := some (.frz (lsObj us) (.lst (ns.map V.int)))) (fun u y => ⟨(Option.some.inj y).symm, q⟩) hi hl hr F hb (hsp _ tb (.inl (.inr ⟨lsObj us, ?_⟩)))
    unfold trk0
    rw [if_neg C.beg.off, if_pos rfl]
end
end L3
namespace L3
open PySem L2
open PySem.Spec
open PyProof.Rows
open LamX (TabB Tabs)
abbrev gL : Str := ("grown" ++ ".<locals>." : Str) ++ "<lambda>"
abbrev bL : Str := ("book_power" ++ ".<locals>." : Str) ++ "<lambda>"
/-- a def of the text stands at its name -/
def DefK (K : PySem.W.Frag) (mg : Str → Option Value) (x : Str) (st : Stmt) : Prop := ∃ (f : Addr) (fd : FuncData), Fun K x x st f fd ∧ mg x = some (.ref f)
/-- .. and its code object at c -/
def DefC (K : PySem.W.Frag) (mg : Str → Option Value) (x : Str) (st : Stmt) (c : Addr) : Prop := ∃ (f : Addr) (fd : FuncData), FunC K x x st f fd c ∧ mg x = some (.ref f) ∧ PySem.W.keepIn K (.ref f) = true ∧ Fun K x x st f fd
section
variable {K : PySem.W.Frag} {mg : Str → Option Value} {h : Heap} {x : Str} {st : Stmt} {f c : Addr} {oc : Value} {od an : Option Addr} {sl : Array (Option Value)} {kV dc pm cd ct : Value}
theorem defk (X : K.In h) (G : h.Ns mainGlobals mg) (a : PySem.W.nsIn K mainGlobals x = some (some (.ref f))) (l : K.lookup f = some ⟨oc, od, .func (PySem.W.fnOf x x (defArgs st) (defBody st) (defScope st) .none kV dc pm an cd ct), sl⟩)
    (e : PySem.W.codeIn K cd x = true) (k : PySem.W.keepIn K (.ref f) = true) : DefK K mg x st := ⟨f, _, fun_mk l e k, PySem.W.mg_of X G a⟩
theorem numk {x : Str} {i j : Int} {t : Tok} (X : K.In h) (G : h.Ns mainGlobals mg) (a : PySem.W.nsIn K mainGlobals x = some (some (.int i t))) (e : i = j) : ∃ t, mg x = some (.int j t) := ⟨t, by rw [← e]; exact PySem.W.mg_of X G a⟩
theorem defc (X : K.In h) (G : h.Ns mainGlobals mg) (a : PySem.W.nsIn K mainGlobals x = some (some (.ref f))) (l : K.lookup f = some ⟨oc, od, .func (PySem.W.fnOf x x (defArgs st) (defBody st) (defScope st) .none kV dc pm an (.ref c) ct), sl⟩)
    (e : PySem.W.codeIn K (.ref c) x = true) (k : PySem.W.keepIn K (.ref f) = true) : DefC K mg x st c := ⟨f, _, ⟨oc, od, kV, dc, pm, an, ct, sl, rfl, l, e⟩, PySem.W.mg_of X G a, k, fun_mk l e k⟩
end
section
variable {P : Program} {w : World} {K : PySem.W.Frag} {mg : Str → Option Value} {base : Heap}
abbrev BindT (x : Str) (st : Stmt) (ps : List Str) : Prop := ∀ (kV doc pm : Value) (an : Option Addr) (cdv ct : Value) (us : List Value), us.length = ps.length → bindArgs (PySem.W.fnOf x x (defArgs st) (defBody st) (defScope st) .none kV doc pm an cdv ct) ⟨us, []⟩ = pure (ps.zip us)
abbrev BindW (x : Str) (st : Stmt) (ps : List Str) : Prop := ∀ (kV doc pm : Value) (an : Option Addr) (cdv ct : Value) (us : List Value), us.length = ps.length → bindArgs (PySem.W.fnOf x x (defArgs st) (defBody st) (defScope st) .none kV doc pm an cdv ct) ⟨[], ps.zip us⟩ = pure (ps.zip us)
theorem has_of {x : Str} {st : Stmt} {k : Nat} {ps : List Str} {sp : Sp} (D : DefK K mg x st) (hb : BindT x st ps) (ok : ∀ {f : Addr} {fd : FuncData}, Fun K x x st f fd → FnOk P w K mg base CX0 k f fd ps sp) : Has P w K mg base x k ps sp := by
  obtain ⟨f, fd, F, hm⟩ := D
  exact ⟨f, fd, ok F, hm, F.kp, F.binds hb⟩
theorem hasG_of {x : Str} {st : Stmt} {k : Nat} {ps : List Str} {sp : Sp} (D : DefK K mg x st) (hb : BindT x st ps) (ok : ∀ {f : Addr} {fd : FuncData}, Fun K x x st f fd → FnG P w K mg base k f fd ps sp) : HasG P w K mg base x k ps sp := by
  obtain ⟨f, fd, F, hm⟩ := D
  exact ⟨f, fd, ok F, hm, F.kp, F.binds hb⟩
theorem hasK_of {x : Str} {st : Stmt} {k : Nat} {ps : List Str} {sp : Sp} (D : DefK K mg x st) (hp : ps ≠ []) (hb : BindW x st ps) (ok : ∀ {f : Addr} {fd : FuncData}, Fun K x x st f fd → FnOk P w K mg base CX0 k f fd ps sp) : HasK P w K mg base x k ps sp := by
  obtain ⟨f, fd, F, hm⟩ := D
  refine ⟨f, fd, ok F, hm, F.kp, ?_⟩
  obtain ⟨oc, od, kV, doc, pm, an, cdv, ct, osl, rfl, _, _⟩ := F.ex
  exact kw_binds hp fun s ws hl => .of_eq (hb kV doc pm an cdv ct ws hl)
theorem hasC_of {x : Str} {st : Stmt} {k : Nat} {ps : List Str} {sp : Sp} {c : Addr} (D : DefC K mg x st c) (hb : BindT x st ps) (ok : ∀ {f : Addr} {fd : FuncData}, FunC K x x st f fd c → FnOk P w K mg base CX0 k f fd ps sp) : Has P w K mg base x k ps sp := by
  obtain ⟨f, fd, F, hm, hk, F2⟩ := D
  exact ⟨f, fd, ok F, hm, hk, F2.binds hb⟩
structure Defs (K : PySem.W.Frag) (mg : Str → Option Value) (cg cb : Addr) : Prop where
  d_is_integer : DefK K mg "is_integer" s_is_integer
  d_has_kinds_below : DefK K mg "has_kinds_below" s_has_kinds_below
  d_inner_places : DefK K mg "inner_places" s_inner_places
  d_ends_of : DefK K mg "ends_of" s_ends_of
  d_ends_counted : DefK K mg "ends_counted" s_ends_counted
  d__law_deck : DefK K mg "_law_deck" s__law_deck
  d__law_draw : DefK K mg "_law_draw" s__law_draw
  d__law_led : DefK K mg "_law_led" s__law_led
  d__law_in : DefK K mg "_law_in" s__law_in
  d__law_many : DefK K mg "_law_many" s__law_many
  d__law_counted : DefK K mg "_law_counted" s__law_counted
  d__law_at : DefK K mg "_law_at" s__law_at
  d_is_between : DefK K mg "is_between" s_is_between
  d_need_from : DefK K mg "need_from" s_need_from
  d_need_room : DefK K mg "need_room" s_need_room
  d_names_in : DefK K mg "names_in" s_names_in
  d__law_pick : DefK K mg "_law_pick" s__law_pick
  d__law_tie : DefK K mg "_law_tie" s__law_tie
  d__law_round : DefK K mg "_law_round" s__law_round
  d__law_table : DefK K mg "_law_table" s__law_table
  d__law_kept : DefK K mg "_law_kept" s__law_kept
  d_is_tie : DefK K mg "is_tie" s_is_tie
  d_round_rows : DefK K mg "round_rows" s_round_rows
  d_kinds_along : DefK K mg "kinds_along" s_kinds_along
  d__law_web : DefK K mg "_law_web" s__law_web
  d__law_most : DefK K mg "_law_most" s__law_most
  d_is_web_value : DefK K mg "is_web_value" s_is_web_value
  d_raw_round : DefK K mg "raw_round" s_raw_round
  d_is_row_value : DefK K mg "is_row_value" s_is_row_value
  d_kind_of : DefK K mg "kind_of" s_kind_of
  d_all_addresses : DefK K mg "all_addresses" s_all_addresses
  d__law_growth : DefK K mg "_law_growth" s__law_growth
  d__law_start : DefK K mg "_law_start" s__law_start
  d_is_growth_value : DefK K mg "is_growth_value" s_is_growth_value
  d_need_web : DefK K mg "need_web" s_need_web
  d_is_address_value : DefK K mg "is_address_value" s_is_address_value
  d_web_around : DefK K mg "web_around" s_web_around
  d__law_book : DefK K mg "_law_book" s__law_book
  d_is_book_value : DefK K mg "is_book_value" s_is_book_value
  d_is_address_after : DefK K mg "is_address_after" s_is_address_after
  d__law_garden : DefK K mg "_law_garden" s__law_garden
  d_is_garden_value : DefK K mg "is_garden_value" s_is_garden_value
  d_need_book : DefK K mg "need_book" s_need_book
  d_one_round : DefK K mg "one_round" s_one_round
  d_need_garden : DefK K mg "need_garden" s_need_garden
  d_grown_book : DefK K mg "grown_book" s_grown_book
  d_need_row : DefK K mg "need_row" s_need_row
  d_need_born : DefK K mg "need_born" s_need_born
  d_repeated : DefK K mg "repeated" s_repeated
  d_row_kind : DefK K mg "row_kind" s_row_kind
  d_row_ends : DefK K mg "row_ends" s_row_ends
  d_degrees : DefK K mg "degrees" s_degrees
  d_grown : DefC K mg "grown" s_grown cg
  d_book_power : DefC K mg "book_power" s_book_power cb
  d_address_of : DefK K mg "address_of" s_address_of
  d_place_of : DefK K mg "place_of" s_place_of
  d__law_renaming : DefK K mg "_law_renaming" s__law_renaming
  d__law_have_degrees : DefK K mg "_law_have_degrees" s__law_have_degrees
  d__law_go_on : DefK K mg "_law_go_on" s__law_go_on
theorem all_ok (N : Nms mg) {cg Pg cb Pb : Addr} (D : Defs K mg cg cb) (TBg : TabB base mg cg Pg) (TBb : TabB base mg cb Pb) (hne : Pg ≠ Pb) {fa : Addr} {fd : FuncData} (F : Fun K "law" "law" s_law fa fd) :
    FnG P w K mg base 14 fa fd ["_law_script"] (spLaw [(Pg, gL), (Pb, bL)] K) := by
  have mg_ : (Pg, gL) ∈ ([(Pg, gL), (Pb, bL)] : List (Addr × Str)) := List.mem_cons_self
  have mb_ : (Pb, bL) ∈ ([(Pg, gL), (Pb, bL)] : List (Addr × Str)) := List.mem_cons_of_mem _ List.mem_cons_self
  have ug : ∀ p ∈ ([(Pg, gL), (Pb, bL)] : List (Addr × Str)), p.1 = Pg → p.2 = gL := fun p hp e => by
    rcases List.mem_cons.mp hp with z | hp
    · rw [z]
    · rw [List.mem_singleton.mp hp] at e
      exact absurd e.symm hne
  have ub : ∀ p ∈ ([(Pg, gL), (Pb, bL)] : List (Addr × Str)), p.1 = Pb → p.2 = bL := fun p hp e => by
    rcases List.mem_cons.mp hp with z | hp
    · rw [z] at e
      exact absurd e hne
    · rw [List.mem_singleton.mp hp]
  obtain ⟨fr, fdr, Fr, hmr⟩ := D.d_repeated
  have h_is_integer : Has P w K mg base "is_integer" 1 ["thing"] (sp3 ⟨[(Pg, gL), (Pb, bL)], none⟩ phi_is_integer) := has_of D.d_is_integer (fun _ _ _ _ _ _ us hl => match us, hl with | [_], _ => rfl) fun F => ok_is_integer F N 
  have h_has_kinds_below : Has P w K mg base "has_kinds_below" 1 ["web", "many"] (sp3 ⟨[(Pg, gL), (Pb, bL)], none⟩ phi_has_kinds_below) := has_of D.d_has_kinds_below (fun _ _ _ _ _ _ us hl => match us, hl with | [_, _], _ => rfl) fun F => ok_has_kinds_below F N 
  have h_inner_places : Has P w K mg base "inner_places" 1 ["growth"] (sp3 ⟨[(Pg, gL), (Pb, bL)], none⟩ phi_inner_places) := has_of D.d_inner_places (fun _ _ _ _ _ _ us hl => match us, hl with | [_], _ => rfl) fun F => ok_inner_places F N 
  have h_ends_of : Has P w K mg base "ends_of" 1 ["garden", "row"] (sp3 ⟨[(Pg, gL), (Pb, bL)], none⟩ phi_ends_of) := has_of D.d_ends_of (fun _ _ _ _ _ _ us hl => match us, hl with | [_, _], _ => rfl) fun F => ok_ends_of F N 
  have h_ends_counted : Has P w K mg base "ends_counted" 1 ["web", "place", "kinds"] (sp3 ⟨[(Pg, gL), (Pb, bL)], none⟩ phi_ends_counted) := has_of D.d_ends_counted (fun _ _ _ _ _ _ us hl => match us, hl with | [_, _, _], _ => rfl) fun F => ok_ends_counted F N 
  have h__law_deck : Has P w K mg base "_law_deck" 1 ["_law_script"] (spDeck K) := has_of D.d__law_deck (fun _ _ _ _ _ _ us hl => match us, hl with | [_], _ => rfl) fun F => ok__law_deck F N 
  have h__law_draw : Has P w K mg base "_law_draw" 1 ["_law_deck_here", "_law_many_here"] (spD [(Pg, gL), (Pb, bL)] phi__law_draw) := has_of D.d__law_draw (fun _ _ _ _ _ _ us hl => match us, hl with | [_, _], _ => rfl) fun F => ok__law_draw F N 
  have h__law_led : Has P w K mg base "_law_led" 1 ["_law_web_here", "_law_renaming_here"] (sp3 ⟨[(Pg, gL), (Pb, bL)], none⟩ phi__law_led) := has_of D.d__law_led (fun _ _ _ _ _ _ us hl => match us, hl with | [_, _], _ => rfl) fun F => ok__law_led F N 
  have h__law_in : Has P w K mg base "_law_in" 1 ["_law_base", "_law_tie_here", "_law_place"] (sp3 ⟨[(Pg, gL), (Pb, bL)], none⟩ phi__law_in) := has_of D.d__law_in (fun _ _ _ _ _ _ us hl => match us, hl with | [_, _, _], _ => rfl) fun F => ok__law_in F N 
  have h__law_many : Has P w K mg base "_law_many" 1 ["_law_web_here", "_law_kinds"] (sp3 ⟨[(Pg, gL), (Pb, bL)], none⟩ phi__law_many) := has_of D.d__law_many (fun _ _ _ _ _ _ us hl => match us, hl with | [_, _], _ => rfl) fun F => ok__law_many F N 
  have h__law_counted : Has P w K mg base "_law_counted" 1 ["_law_table_here", "_law_places", "_law_many_here"] (sp3 ⟨[(Pg, gL), (Pb, bL)], none⟩ phi__law_counted) := has_of D.d__law_counted (fun _ _ _ _ _ _ us hl => match us, hl with | [_, _, _], _ => rfl) fun F => ok__law_counted F N 
  have h__law_at : Has P w K mg base "_law_at" 1 ["_law_web_here", "_law_side", "_law_place", "_law_kinds"] (sp3 ⟨[(Pg, gL), (Pb, bL)], none⟩ phi__law_at) := has_of D.d__law_at (fun _ _ _ _ _ _ us hl => match us, hl with | [_, _, _, _], _ => rfl) fun F => ok__law_at F N 
  have h_is_between : Has P w K mg base "is_between" 2 ["thing", "least", "most"] (sp3 ⟨[(Pg, gL), (Pb, bL)], none⟩ phi_is_between) := has_of D.d_is_between (fun _ _ _ _ _ _ us hl => match us, hl with | [_, _, _], _ => rfl) fun F => ok_is_between F N h_is_integer
  have h_need_from : Has P w K mg base "need_from" 2 ["thing", "least"] (sp3 ⟨[(Pg, gL), (Pb, bL)], none⟩ phi_need_from) := has_of D.d_need_from (fun _ _ _ _ _ _ us hl => match us, hl with | [_, _], _ => rfl) fun F => ok_need_from F N h_is_integer
  have h_need_room : Has P w K mg base "need_room" 2 ["web", "book"] (sp3 ⟨[(Pg, gL), (Pb, bL)], none⟩ phi_need_room) := has_of D.d_need_room (fun _ _ _ _ _ _ us hl => match us, hl with | [_, _], _ => rfl) fun F => ok_need_room F N h_inner_places
  have h_names_in : Has P w K mg base "names_in" 2 ["tie", "growth", "first"] (sp3 ⟨[(Pg, gL), (Pb, bL)], none⟩ phi_names_in) := has_of D.d_names_in (fun _ _ _ _ _ _ us hl => match us, hl with | [_, _, _], _ => rfl) fun F => ok_names_in F N h_inner_places
  have h__law_pick : Has P w K mg base "_law_pick" 2 ["_law_deck_here", "_law_some"] (spD [(Pg, gL), (Pb, bL)] phi__law_pick) := has_of D.d__law_pick (fun _ _ _ _ _ _ us hl => match us, hl with | [_, _], _ => rfl) fun F => ok__law_pick F N h__law_draw
  have h__law_tie : Has P w K mg base "_law_tie" 2 ["_law_deck_here", "_law_n", "_law_kinds"] (spD [(Pg, gL), (Pb, bL)] phi__law_tie) := has_of D.d__law_tie (fun _ _ _ _ _ _ us hl => match us, hl with | [_, _, _], _ => rfl) fun F => ok__law_tie F N h__law_draw
  have h__law_round : Has P w K mg base "_law_round" 2 ["_law_web_here", "_law_book_here"] (sp3 ⟨[(Pg, gL), (Pb, bL)], none⟩ phi__law_round) := has_of D.d__law_round (fun _ _ _ _ _ _ us hl => match us, hl with | [_, _], _ => rfl) fun F => ok__law_round F N h__law_in
  have h__law_table : Has P w K mg base "_law_table" 2 ["_law_book_here"] (sp3 ⟨[(Pg, gL), (Pb, bL)], none⟩ phi__law_table) := has_of D.d__law_table (fun _ _ _ _ _ _ us hl => match us, hl with | [_], _ => rfl) fun F => ok__law_table F N h__law_many
  have h__law_kept : Has P w K mg base "_law_kept" 2 ["_law_garden_here", "_law_n"] (sp3 ⟨[(Pg, gL), (Pb, bL)], none⟩ phi__law_kept) := has_of D.d__law_kept (fun _ _ _ _ _ _ us hl => match us, hl with | [_, _], _ => rfl) fun F => ok__law_kept F N h__law_in
  have h_is_tie : Has P w K mg base "is_tie" 3 ["places", "thing"] (sp3 ⟨[(Pg, gL), (Pb, bL)], none⟩ phi_is_tie) := has_of D.d_is_tie (fun _ _ _ _ _ _ us hl => match us, hl with | [_, _], _ => rfl) fun F => ok_is_tie F N h_is_between
  have h_round_rows : Has P w K mg base "round_rows" 3 ["places", "rows", "book"] (sp3 ⟨[(Pg, gL), (Pb, bL)], none⟩ phi_round_rows) := has_of D.d_round_rows (fun _ _ _ _ _ _ us hl => match us, hl with | [_, _, _], _ => rfl) fun F => ok_round_rows F N h_names_in h_inner_places
  have h_kinds_along : Has P w K mg base "kinds_along" 3 ["garden", "thing"] (sp3 ⟨[(Pg, gL), (Pb, bL)], none⟩ phi_kinds_along) := has_of D.d_kinds_along (fun _ _ _ _ _ _ us hl => match us, hl with | [_, _], _ => rfl) fun F => ok_kinds_along F N h_is_between
  have h__law_web : Has P w K mg base "_law_web" 3 ["_law_deck_here", "_law_n", "_law_kinds", "_law_many_here"] (spD [(Pg, gL), (Pb, bL)] phi__law_web) := has_of D.d__law_web (fun _ _ _ _ _ _ us hl => match us, hl with | [_, _, _, _], _ => rfl) fun F => ok__law_web F N h__law_tie h__law_draw
  have h__law_most : Has P w K mg base "_law_most" 3 ["_law_garden_here", "_law_n"] (sp3 ⟨[(Pg, gL), (Pb, bL)], none⟩ phi__law_most) := has_of D.d__law_most (fun _ _ _ _ _ _ us hl => match us, hl with | [_, _], _ => rfl) fun F => ok__law_most F N h__law_many h__law_table h__law_counted
  have h_is_web_value : Has P w K mg base "is_web_value" 4 ["thing"] (sp3 ⟨[(Pg, gL), (Pb, bL)], none⟩ phi_is_web_value) := has_of D.d_is_web_value (fun _ _ _ _ _ _ us hl => match us, hl with | [_], _ => rfl) fun F => ok_is_web_value F N h_is_integer h_is_tie
  have h_raw_round : Has P w K mg base "raw_round" 4 ["web", "book"] (sp3 ⟨[(Pg, gL), (Pb, bL)], none⟩ phi_raw_round) := has_of D.d_raw_round (fun _ _ _ _ _ _ us hl => match us, hl with | [_, _], _ => rfl) fun F => ok_raw_round F N h_round_rows
  have h_is_row_value : Has P w K mg base "is_row_value" 4 ["garden", "thing"] (sp3 ⟨[(Pg, gL), (Pb, bL)], none⟩ phi_is_row_value) := has_of D.d_is_row_value (fun _ _ _ _ _ _ us hl => match us, hl with | [_, _], _ => rfl) fun F => ok_is_row_value F N h_kinds_along
  have h_kind_of : Has P w K mg base "kind_of" 4 ["garden", "row"] (sp3 ⟨[(Pg, gL), (Pb, bL)], none⟩ phi_kind_of) := has_of D.d_kind_of (fun _ _ _ _ _ _ us hl => match us, hl with | [_, _], _ => rfl) fun F => ok_kind_of F N h_kinds_along
  have h_all_addresses : Has P w K mg base "all_addresses" 4 ["garden", "n"] (sp3 ⟨[(Pg, gL), (Pb, bL)], none⟩ phi_all_addresses) := has_of D.d_all_addresses (fun _ _ _ _ _ _ us hl => match us, hl with | [_, _], _ => rfl) fun F => ok_all_addresses F N h_round_rows h_inner_places
  have h__law_growth : Has P w K mg base "_law_growth" 4 ["_law_deck_here", "_law_kinds", "_law_full"] (spD [(Pg, gL), (Pb, bL)] phi__law_growth) := has_of D.d__law_growth (fun _ _ _ _ _ _ us hl => match us, hl with | [_, _, _], _ => rfl) fun F => ok__law_growth F N h__law_draw h__law_web
  have h__law_start : Has P w K mg base "_law_start" 4 ["_law_deck_here", "_law_kinds"] (spD [(Pg, gL), (Pb, bL)] phi__law_start) := has_of D.d__law_start (fun _ _ _ _ _ _ us hl => match us, hl with | [_, _], _ => rfl) fun F => ok__law_start F N h__law_web h__law_draw
  have h_is_growth_value : Has P w K mg base "is_growth_value" 5 ["thing"] (sp3 ⟨[(Pg, gL), (Pb, bL)], none⟩ phi_is_growth_value) := has_of D.d_is_growth_value (fun _ _ _ _ _ _ us hl => match us, hl with | [_], _ => rfl) fun F => ok_is_growth_value F N h_is_web_value
  have h_need_web : Has P w K mg base "need_web" 5 ["web"] (sp3 ⟨[(Pg, gL), (Pb, bL)], none⟩ phi_need_web) := has_of D.d_need_web (fun _ _ _ _ _ _ us hl => match us, hl with | [_], _ => rfl) fun F => ok_need_web F N h_is_web_value
  have h_is_address_value : Has P w K mg base "is_address_value" 5 ["garden", "thing"] (sp3 ⟨[(Pg, gL), (Pb, bL)], none⟩ phi_is_address_value) := has_of D.d_is_address_value (fun _ _ _ _ _ _ us hl => match us, hl with | [_, _], _ => rfl) fun F => ok_is_address_value F N h_is_between h_is_row_value h_kind_of
  have h_web_around : Has P w K mg base "web_around" 5 ["garden", "row"] (sp3 ⟨[(Pg, gL), (Pb, bL)], none⟩ phi_web_around) := has_of D.d_web_around (fun _ _ _ _ _ _ us hl => match us, hl with | [_, _], _ => rfl) fun F => ok_web_around F N h_kind_of
  have h__law_book : Has P w K mg base "_law_book" 5 ["_law_deck_here"] (spD [(Pg, gL), (Pb, bL)] phi__law_book) := has_of D.d__law_book (fun _ _ _ _ _ _ us hl => match us, hl with | [_], _ => rfl) fun F => ok__law_book F N h__law_pick h__law_draw h__law_growth
  have h_is_book_value : Has P w K mg base "is_book_value" 6 ["thing"] (sp3 ⟨[(Pg, gL), (Pb, bL)], none⟩ phi_is_book_value) := has_of D.d_is_book_value (fun _ _ _ _ _ _ us hl => match us, hl with | [_], _ => rfl) fun F => ok_is_book_value F N h_is_growth_value h_has_kinds_below
  have h_is_address_after : Has P w K mg base "is_address_after" 6 ["garden", "n", "thing"] (sp3 ⟨[(Pg, gL), (Pb, bL)], none⟩ phi_is_address_after) := has_of D.d_is_address_after (fun _ _ _ _ _ _ us hl => match us, hl with | [_, _, _], _ => rfl) fun F => ok_is_address_after F N h_is_address_value
  have h__law_garden : Has P w K mg base "_law_garden" 6 ["_law_deck_here"] (spD [(Pg, gL), (Pb, bL)] phi__law_garden) := has_of D.d__law_garden (fun _ _ _ _ _ _ us hl => match us, hl with | [_], _ => rfl) fun F => ok__law_garden F N h__law_book h__law_start
  have h_is_garden_value : Has P w K mg base "is_garden_value" 7 ["thing"] (sp3 ⟨[(Pg, gL), (Pb, bL)], none⟩ phi_is_garden_value) := has_of D.d_is_garden_value (fun _ _ _ _ _ _ us hl => match us, hl with | [_], _ => rfl) fun F => ok_is_garden_value F N h_has_kinds_below h_is_web_value h_is_book_value
  have h_need_book : Has P w K mg base "need_book" 7 ["book"] (sp3 ⟨[(Pg, gL), (Pb, bL)], none⟩ phi_need_book) := has_of D.d_need_book (fun _ _ _ _ _ _ us hl => match us, hl with | [_], _ => rfl) fun F => ok_need_book F N h_is_book_value
  have h_one_round : Has P w K mg base "one_round" 7 ["web", "book"] (sp3 ⟨[(Pg, gL), (Pb, bL)], none⟩ phi_one_round) := has_of D.d_one_round (fun _ _ _ _ _ _ us hl => match us, hl with | [_, _], _ => rfl) fun F => ok_one_round F N h_need_web h_need_room h_raw_round h_is_book_value h_has_kinds_below
  have h_need_garden : Has P w K mg base "need_garden" 8 ["garden"] (sp3 ⟨[(Pg, gL), (Pb, bL)], none⟩ phi_need_garden) := has_of D.d_need_garden (fun _ _ _ _ _ _ us hl => match us, hl with | [_], _ => rfl) fun F => ok_need_garden F N h_is_garden_value
  have h_grown_book : Has P w K mg base "grown_book" 8 ["book", "other"] (sp3 ⟨[(Pg, gL), (Pb, bL)], none⟩ phi_grown_book) := has_of D.d_grown_book (fun _ _ _ _ _ _ us hl => match us, hl with | [_, _], _ => rfl) fun F => ok_grown_book F N h_one_round
  have h_need_row : Has P w K mg base "need_row" 9 ["garden", "row"] (sp3 ⟨[(Pg, gL), (Pb, bL)], none⟩ phi_need_row) := has_of D.d_need_row (fun _ _ _ _ _ _ us hl => match us, hl with | [_, _], _ => rfl) fun F => ok_need_row F N h_need_garden h_is_row_value
  have h_need_born : Has P w K mg base "need_born" 9 ["garden", "address", "n"] (sp3 ⟨[(Pg, gL), (Pb, bL)], none⟩ phi_need_born) := has_of D.d_need_born (fun _ _ _ _ _ _ us hl => match us, hl with | [_, _, _], _ => rfl) fun F => ok_need_born F N h_need_garden h_is_address_value h_is_integer
  have h_row_kind : Has P w K mg base "row_kind" 10 ["garden", "row"] (sp3 ⟨[(Pg, gL), (Pb, bL)], none⟩ phi_row_kind) := has_of D.d_row_kind (fun _ _ _ _ _ _ us hl => match us, hl with | [_, _], _ => rfl) fun F => ok_row_kind F N h_need_row h_kind_of
  have h_row_ends : Has P w K mg base "row_ends" 10 ["garden", "row"] (sp3 ⟨[(Pg, gL), (Pb, bL)], none⟩ phi_row_ends) := has_of D.d_row_ends (fun _ _ _ _ _ _ us hl => match us, hl with | [_, _], _ => rfl) fun F => ok_row_ends F N h_need_row h_ends_of
  have h_degrees : Has P w K mg base "degrees" 10 ["garden", "address", "n"] (sp3 ⟨[(Pg, gL), (Pb, bL)], none⟩ phi_degrees) := has_of D.d_degrees (fun _ _ _ _ _ _ us hl => match us, hl with | [_, _, _], _ => rfl) fun F => ok_degrees F N h_need_born h_ends_counted h_web_around
  have h_grown : Has P w K mg base "grown" 11 ["garden", "n"] (sp3 ⟨[(Pg, gL), (Pb, bL)], none⟩ phi_grown) := hasC_of D.d_grown (fun _ _ _ _ _ _ us hl => match us, hl with | [_, _], _ => rfl) fun F => ok_grown F N h_need_garden h_need_from Fr hmr h_one_round TBg mg_ ug
  have h_book_power : Has P w K mg base "book_power" 11 ["book", "n"] (sp3 ⟨[(Pg, gL), (Pb, bL)], none⟩ phi_book_power) := hasC_of D.d_book_power (fun _ _ _ _ _ _ us hl => match us, hl with | [_, _], _ => rfl) fun F => ok_book_power F N h_need_book h_need_from Fr hmr h_grown_book TBb mb_ ub
  have h_address_of : Has P w K mg base "address_of" 12 ["garden", "n", "place"] (sp3 ⟨[(Pg, gL), (Pb, bL)], none⟩ phi_address_of) := has_of D.d_address_of (fun _ _ _ _ _ _ us hl => match us, hl with | [_, _, _], _ => rfl) fun F => ok_address_of F N h_grown h_is_between h_all_addresses
  have k_address_of : HasK P w K mg base "address_of" 12 ["garden", "n", "place"] (sp3 ⟨[(Pg, gL), (Pb, bL)], none⟩ phi_address_of) := hasK_of D.d_address_of (by decide) (fun _ _ _ _ _ _ us hl => match us, hl with | [_, _, _], _ => rfl) fun F => ok_address_of F N h_grown h_is_between h_all_addresses
  have h_place_of : Has P w K mg base "place_of" 12 ["garden", "n", "address"] (sp3 ⟨[(Pg, gL), (Pb, bL)], none⟩ phi_place_of) := has_of D.d_place_of (fun _ _ _ _ _ _ us hl => match us, hl with | [_, _, _], _ => rfl) fun F => ok_place_of F N h_grown h_is_address_after h_all_addresses
  have k_place_of : HasK P w K mg base "place_of" 12 ["garden", "n", "address"] (sp3 ⟨[(Pg, gL), (Pb, bL)], none⟩ phi_place_of) := hasK_of D.d_place_of (by decide) (fun _ _ _ _ _ _ us hl => match us, hl with | [_, _, _], _ => rfl) fun F => ok_place_of F N h_grown h_is_address_after h_all_addresses
  have h__law_renaming : Has P w K mg base "_law_renaming" 13 ["_law_garden_here", "_law_power", "_law_n"] (sp3 ⟨[(Pg, gL), (Pb, bL)], none⟩ phi__law_renaming) := has_of D.d__law_renaming (fun _ _ _ _ _ _ us hl => match us, hl with | [_, _, _], _ => rfl) fun F => ok__law_renaming F N h_address_of h_place_of
  have h__law_have_degrees : HasG P w K mg base "_law_have_degrees" 13 ["_law_book_here", "_law_power", "_law_n"] (sp3 ⟨[(Pg, gL), (Pb, bL)], none⟩ phi__law_have_degrees) := hasG_of D.d__law_have_degrees (fun _ _ _ _ _ _ us hl => match us, hl with | [_, _, _], _ => rfl) fun F => ok__law_have_degrees F N k_address_of h_grown h__law_at k_place_of h_degrees
  have h__law_go_on : HasG P w K mg base "_law_go_on" 13 ["_law_garden_here", "_law_n"] (sp3 ⟨[(Pg, gL), (Pb, bL)], none⟩ phi__law_go_on) := hasG_of D.d__law_go_on (fun _ _ _ _ _ _ us hl => match us, hl with | [_, _], _ => rfl) fun F => ok__law_go_on F N h_grown h_row_ends h__law_kept h_place_of h_row_kind
  exact ok_law N h__law_deck h__law_garden h_book_power h__law_round h__law_renaming h__law_have_degrees h__law_draw h__law_most h__law_go_on h__law_led h_grown h_one_round F
end
/-- what the head leaves, and the law's promise -/
structure LawAtG (l : PySem.W.OpenLaw) (w : World) (mg : Str → Option Value) (fa : Addr) (h : Heap) (K : PySem.W.Frag) (fd : FuncData) (cs : List (Addr × Addr)) (sp : Sp) (x : Str) (k n : Nat) : Prop where
  kin : K.In h
  tab : ∀ p ∈ cs, h.get? p.2 = some noTab
  no : ∀ p ∈ cs, K.lookup p.2 = none
  code : ∀ p ∈ cs, PySem.W.CodeHd h p.1 p.2
  bind : ∀ (s : Shared) (u : Value), BindsTo s fd ⟨[u], []⟩ [(x, u)]
  pr : ∀ (H : Hp) (a : Addr) (ns : List Int), (∀ p ∈ cs, H p.2 = some (.tbl #[])) → SqL K H a (ns.map V.int) → sp [.ref a] H (fun v _ => v = .bl true) fun _ _ _ => False
  fn : ∀ base : Heap, K.In base → base.Ns mainGlobals mg → (∀ p ∈ cs, TabB base mg p.1 p.2) → FnG l.prog w K mg base k fa fd [x] sp
theorem walk_G {l : PySem.W.OpenLaw} {n k : Nat} {q : Program} {loose : List Str} {XP : (Str → Option Value) → Heap → Prop} {YP : World → Heap → Prop} {d : DefRec} {x : Str} (hn : l.most = some n) (hn2 : n ≤ sizeLine) (hdf : d.params.defaults = []) (hr : Room k callerA)
    (F : ∀ (w : World) (mg : Str → Option Value) (fa : Addr) (h : Heap), YP w h → h.Ns mainGlobals mg → mg d.name = some (.ref fa) → ∃ K fd cs sp, LawAtG l w mg fa h K fd cs sp x k n) :
    PySem.W.WalkO q loose XP YP l.row.toRowW d [] (fun f vs => PySem.call f vs) := by
  refine Att.attach_callB hn hdf fun w s₀ s₁ mg mb fa o pm cd doc a vs ns G Y ho hd hcd hmg hobj hints hlen hbits hg => ?_
  obtain ⟨K, fd, cs, sp, L⟩ := F w mg fa _ Y G.T.g hmg
  have B : Begin s₁.heap (cs.map (·.2)) a vs := by
    refine ⟨fun b hb => ?_, hobj⟩
    obtain ⟨p, hp, rfl⟩ := List.mem_map.mp hb
    exact L.tab p hp
  have C : AtCall K mg mb cs s₁ a vs := ⟨L.kin, G.T.g, G.T.b, G.T.builtins, G.T.nolimit, hg, B, L.no, L.code, G.T.bmain⟩
  exact C.ends hints (Nat.le_trans hlen hn2) hr L.fn L.bind fun H h1 h2 => L.pr H a ns h1 h2
/-- no triple stands in an empty table -/
theorem tab0 {H : Hp} {P : Addr} {q : Str} (h : H P = some (.tbl #[])) : LamX.TabS H P q := ⟨#[], h, by trivial, fun pos cv hc => by cases hc⟩
/-- the table of a code object -/
def tabOf (o : Obj) : Option Addr := match o.data with
  | .fields vs => (match (vs[11]? : Option Value) with
    | some (.ref P) => some P
    | _ => none)
  | _ => none
theorem law_at {l : PySem.W.OpenLaw} {w : World} {mg : Str → Option Value} {fa : Addr} {h : Heap} {K : PySem.W.Frag} {cg Pg cb Pb : Addr} {ts : List Addr} (X : K.In h) (G : h.Ns mainGlobals mg) (hfa : mg "law" = some (.ref fa)) (N : Nms mg) (D : Defs K mg cg cb) (DL : DefK K mg "law" s_law)
    {og ob : Obj} (lg : K.lookup cg = some og) (lb : K.lookup cb = some ob) (pg : tabOf og = some Pg) (pb : tabOf ob = some Pb) (hT : ∀ P ∈ ts, h.get? P = some noTab) (tg : Pg ∈ ts) (tb : Pb ∈ ts) (hne : Pg ≠ Pb) (ng : K.lookup Pg = none) (nb : K.lookup Pb = none) (eg : PySem.W.codeHdIn K cg Pg = true) (eb : PySem.W.codeHdIn K cb Pb = true) :
    ∃ K fd cs sp, LawAtG l w mg fa h K fd cs sp "_law_script" 14 63 := by
  obtain ⟨f, fd, F, hm⟩ := DL
  rw [hm] at hfa
  obtain rfl : f = fa := Value.ref.inj (Option.some.inj hfa)
  have two : ∀ {Q : Addr × Addr → Prop}, Q (cg, Pg) → Q (cb, Pb) → ∀ p ∈ [(cg, Pg), (cb, Pb)], Q p := fun h1 h2 p hp => by
    rcases List.mem_cons.mp hp with z | hp
    · rw [z]; exact h1
    · rw [List.mem_singleton.mp hp]; exact h2
  refine ⟨K, fd, [(cg, Pg), (cb, Pb)], spLaw [(Pg, gL), (Pb, bL)] K, ⟨X, two (hT _ tg) (hT _ tb), two ng nb, two (PySem.W.codeHd_of_K X eg) (PySem.W.codeHd_of_K X eb), fun s u => ?_, fun H a ns h1 h2 => ?_, fun base _ _ hTB => all_ok N D (hTB _ List.mem_cons_self) (hTB _ (List.mem_cons_of_mem _ List.mem_cons_self)) hne F⟩⟩
  · obtain ⟨oc, od, kV, doc, pm, an, cdv, ct, osl, rfl, _, _⟩ := F.ex
    exact .of_eq rfl
  · refine ⟨a, ns, rfl, h2, fun p hp => ?_, fun _ => rfl⟩
    rcases List.mem_cons.mp hp with z | hp
    · rw [z]; exact tab0 (h1 _ List.mem_cons_self)
    · rw [List.mem_singleton.mp hp]; exact tab0 (h1 _ (List.mem_cons_of_mem _ List.mem_cons_self))
end L3
open PySem PySem.W PyProof.Rows in
set_option maxRecDepth 100000 in
set_option maxHeartbeats 0 in
theorem PySem.Challenge.cw_manydeep_k12_whole_powers_and_addresses_holds : PySem.Challenge.rw_manydeep_k12_whole_powers_and_addresses.Holds := by
  w_on; o_law; k_head; (case hw => w_witness2)
  k_fill
  refine L3.walk_G (l := PySem.Challenge.rw_manydeep_k12_whole_powers_and_addresses) (n := 63) (k := 14) (x := "_law_script") rfl (by decide) rfl ⟨rfl, by decide, by decide⟩ ?F
  case F =>
    intro w mg fa h Y G hmg
    have X := PySem.W.km_in_of Y
    have TT := PySem.W.km_tabs_of Y
    have n_len : mg "len" = none := PySem.W.mg_none_of X G (by k_is)
    have n_sum : mg "sum" = none := PySem.W.mg_none_of X G (by k_is)
    have n_all : mg "all" = none := PySem.W.mg_none_of X G (by k_is)
    have n_list : mg "list" = none := PySem.W.mg_none_of X G (by k_is)
    have n_tuple : mg "tuple" = none := PySem.W.mg_none_of X G (by k_is)
    have n_isinstance : mg "isinstance" = none := PySem.W.mg_none_of X G (by k_is)
    have n_int : mg "int" = none := PySem.W.mg_none_of X G (by k_is)
    have n_bool : mg "bool" = none := PySem.W.mg_none_of X G (by k_is)
    have n_range : mg "range" = none := PySem.W.mg_none_of X G (by k_is)
    have n_enumerate : mg "enumerate" = none := PySem.W.mg_none_of X G (by k_is)
    have n_zip : mg "zip" = none := PySem.W.mg_none_of X G (by k_is)
    have n_sorted : mg "sorted" = none := PySem.W.mg_none_of X G (by k_is)
    have n_repr : mg "repr" = none := PySem.W.mg_none_of X G (by k_is)
    have n_max : mg "max" = none := PySem.W.mg_none_of X G (by k_is)
    have n_kinds : ∃ t, mg "KINDS" = some (.int 3 t) := by
      refine' L3.numk X G ?a ?e
      (case a => k_is)
      (case e => rfl)
    have n_most_places : ∃ t, mg "MOST_PLACES" = some (.int 400 t) := by
      refine' L3.numk X G ?a ?e
      (case a => k_is)
      (case e => rfl)
    have n_most_ties : ∃ t, mg "MOST_TIES" = some (.int 600 t) := by
      refine' L3.numk X G ?a ?e
      (case a => k_is)
      (case e => rfl)
    have d_is_integer := L3.defk (x := "is_integer") (st := L3.s_is_integer) X G (by k_is) (by k_is) (by k_is) (by k_is)
    have d_has_kinds_below := L3.defk (x := "has_kinds_below") (st := L3.s_has_kinds_below) X G (by k_is) (by k_is) (by k_is) (by k_is)
    have d_inner_places := L3.defk (x := "inner_places") (st := L3.s_inner_places) X G (by k_is) (by k_is) (by k_is) (by k_is)
    have d_ends_of := L3.defk (x := "ends_of") (st := L3.s_ends_of) X G (by k_is) (by k_is) (by k_is) (by k_is)
    have d_ends_counted := L3.defk (x := "ends_counted") (st := L3.s_ends_counted) X G (by k_is) (by k_is) (by k_is) (by k_is)
    have d__law_deck := L3.defk (x := "_law_deck") (st := L3.s__law_deck) X G (by k_is) (by k_is) (by k_is) (by k_is)
    have d__law_draw := L3.defk (x := "_law_draw") (st := L3.s__law_draw) X G (by k_is) (by k_is) (by k_is) (by k_is)
    have d__law_led := L3.defk (x := "_law_led") (st := L3.s__law_led) X G (by k_is) (by k_is) (by k_is) (by k_is)
    have d__law_in := L3.defk (x := "_law_in") (st := L3.s__law_in) X G (by k_is) (by k_is) (by k_is) (by k_is)
    have d__law_many := L3.defk (x := "_law_many") (st := L3.s__law_many) X G (by k_is) (by k_is) (by k_is) (by k_is)
    have d__law_counted := L3.defk (x := "_law_counted") (st := L3.s__law_counted) X G (by k_is) (by k_is) (by k_is) (by k_is)
    have d__law_at := L3.defk (x := "_law_at") (st := L3.s__law_at) X G (by k_is) (by k_is) (by k_is) (by k_is)
    have d_is_between := L3.defk (x := "is_between") (st := L3.s_is_between) X G (by k_is) (by k_is) (by k_is) (by k_is)
    have d_need_from := L3.defk (x := "need_from") (st := L3.s_need_from) X G (by k_is) (by k_is) (by k_is) (by k_is)
    have d_need_room := L3.defk (x := "need_room") (st := L3.s_need_room) X G (by k_is) (by k_is) (by k_is) (by k_is)
    have d_names_in := L3.defk (x := "names_in") (st := L3.s_names_in) X G (by k_is) (by k_is) (by k_is) (by k_is)
    have d__law_pick := L3.defk (x := "_law_pick") (st := L3.s__law_pick) X G (by k_is) (by k_is) (by k_is) (by k_is)
    have d__law_tie := L3.defk (x := "_law_tie") (st := L3.s__law_tie) X G (by k_is) (by k_is) (by k_is) (by k_is)
    have d__law_round := L3.defk (x := "_law_round") (st := L3.s__law_round) X G (by k_is) (by k_is) (by k_is) (by k_is)
    have d__law_table := L3.defk (x := "_law_table") (st := L3.s__law_table) X G (by k_is) (by k_is) (by k_is) (by k_is)
    have d__law_kept := L3.defk (x := "_law_kept") (st := L3.s__law_kept) X G (by k_is) (by k_is) (by k_is) (by k_is)
    have d_is_tie := L3.defk (x := "is_tie") (st := L3.s_is_tie) X G (by k_is) (by k_is) (by k_is) (by k_is)
    have d_round_rows := L3.defk (x := "round_rows") (st := L3.s_round_rows) X G (by k_is) (by k_is) (by k_is) (by k_is)
    have d_kinds_along := L3.defk (x := "kinds_along") (st := L3.s_kinds_along) X G (by k_is) (by k_is) (by k_is) (by k_is)
    have d__law_web := L3.defk (x := "_law_web") (st := L3.s__law_web) X G (by k_is) (by k_is) (by k_is) (by k_is)
    have d__law_most := L3.defk (x := "_law_most") (st := L3.s__law_most) X G (by k_is) (by k_is) (by k_is) (by k_is)
    have d_is_web_value := L3.defk (x := "is_web_value") (st := L3.s_is_web_value) X G (by k_is) (by k_is) (by k_is) (by k_is)
    have d_raw_round := L3.defk (x := "raw_round") (st := L3.s_raw_round) X G (by k_is) (by k_is) (by k_is) (by k_is)
    have d_is_row_value := L3.defk (x := "is_row_value") (st := L3.s_is_row_value) X G (by k_is) (by k_is) (by k_is) (by k_is)
    have d_kind_of := L3.defk (x := "kind_of") (st := L3.s_kind_of) X G (by k_is) (by k_is) (by k_is) (by k_is)
    have d_all_addresses := L3.defk (x := "all_addresses") (st := L3.s_all_addresses) X G (by k_is) (by k_is) (by k_is) (by k_is)
    have d__law_growth := L3.defk (x := "_law_growth") (st := L3.s__law_growth) X G (by k_is) (by k_is) (by k_is) (by k_is)
    have d__law_start := L3.defk (x := "_law_start") (st := L3.s__law_start) X G (by k_is) (by k_is) (by k_is) (by k_is)
    have d_is_growth_value := L3.defk (x := "is_growth_value") (st := L3.s_is_growth_value) X G (by k_is) (by k_is) (by k_is) (by k_is)
    have d_need_web := L3.defk (x := "need_web") (st := L3.s_need_web) X G (by k_is) (by k_is) (by k_is) (by k_is)
    have d_is_address_value := L3.defk (x := "is_address_value") (st := L3.s_is_address_value) X G (by k_is) (by k_is) (by k_is) (by k_is)
    have d_web_around := L3.defk (x := "web_around") (st := L3.s_web_around) X G (by k_is) (by k_is) (by k_is) (by k_is)
    have d__law_book := L3.defk (x := "_law_book") (st := L3.s__law_book) X G (by k_is) (by k_is) (by k_is) (by k_is)
    have d_is_book_value := L3.defk (x := "is_book_value") (st := L3.s_is_book_value) X G (by k_is) (by k_is) (by k_is) (by k_is)
    have d_is_address_after := L3.defk (x := "is_address_after") (st := L3.s_is_address_after) X G (by k_is) (by k_is) (by k_is) (by k_is)
    have d__law_garden := L3.defk (x := "_law_garden") (st := L3.s__law_garden) X G (by k_is) (by k_is) (by k_is) (by k_is)
    have d_is_garden_value := L3.defk (x := "is_garden_value") (st := L3.s_is_garden_value) X G (by k_is) (by k_is) (by k_is) (by k_is)
    have d_need_book := L3.defk (x := "need_book") (st := L3.s_need_book) X G (by k_is) (by k_is) (by k_is) (by k_is)
    have d_one_round := L3.defk (x := "one_round") (st := L3.s_one_round) X G (by k_is) (by k_is) (by k_is) (by k_is)
    have d_need_garden := L3.defk (x := "need_garden") (st := L3.s_need_garden) X G (by k_is) (by k_is) (by k_is) (by k_is)
    have d_grown_book := L3.defk (x := "grown_book") (st := L3.s_grown_book) X G (by k_is) (by k_is) (by k_is) (by k_is)
    have d_need_row := L3.defk (x := "need_row") (st := L3.s_need_row) X G (by k_is) (by k_is) (by k_is) (by k_is)
    have d_need_born := L3.defk (x := "need_born") (st := L3.s_need_born) X G (by k_is) (by k_is) (by k_is) (by k_is)
    have d_repeated := L3.defk (x := "repeated") (st := L3.s_repeated) X G (by k_is) (by k_is) (by k_is) (by k_is)
    have d_row_kind := L3.defk (x := "row_kind") (st := L3.s_row_kind) X G (by k_is) (by k_is) (by k_is) (by k_is)
    have d_row_ends := L3.defk (x := "row_ends") (st := L3.s_row_ends) X G (by k_is) (by k_is) (by k_is) (by k_is)
    have d_degrees := L3.defk (x := "degrees") (st := L3.s_degrees) X G (by k_is) (by k_is) (by k_is) (by k_is)
    have d_grown := L3.defc (x := "grown") (st := L3.s_grown) X G (by k_is) (by k_is) (by k_is) (by k_is)
    have d_book_power := L3.defc (x := "book_power") (st := L3.s_book_power) X G (by k_is) (by k_is) (by k_is) (by k_is)
    have d_address_of := L3.defk (x := "address_of") (st := L3.s_address_of) X G (by k_is) (by k_is) (by k_is) (by k_is)
    have d_place_of := L3.defk (x := "place_of") (st := L3.s_place_of) X G (by k_is) (by k_is) (by k_is) (by k_is)
    have d__law_renaming := L3.defk (x := "_law_renaming") (st := L3.s__law_renaming) X G (by k_is) (by k_is) (by k_is) (by k_is)
    have d__law_have_degrees := L3.defk (x := "_law_have_degrees") (st := L3.s__law_have_degrees) X G (by k_is) (by k_is) (by k_is) (by k_is)
    have d__law_go_on := L3.defk (x := "_law_go_on") (st := L3.s__law_go_on) X G (by k_is) (by k_is) (by k_is) (by k_is)
    have d_law := L3.defk (x := "law") (st := L3.s_law) X G (by k_is) (by k_is) (by k_is) (by k_is)
    refine' L3.law_at X G hmg ⟨n_len, n_sum, n_all, n_list, n_tuple, n_isinstance, n_int, n_bool, n_range, n_enumerate, n_zip, n_sorted, n_repr, n_max, n_kinds, n_most_places, n_most_ties⟩ { d_is_integer := d_is_integer, d_has_kinds_below := d_has_kinds_below, d_inner_places := d_inner_places, d_ends_of := d_ends_of, d_ends_counted := d_ends_counted, d__law_deck := d__law_deck, d__law_draw := d__law_draw, d__law_led := d__law_led, d__law_in := d__law_in, d__law_many := d__law_many, d__law_counted := d__law_counted, d__law_at := d__law_at, d_is_between := d_is_between, d_need_from := d_need_from, d_need_room := d_need_room, d_names_in := d_names_in, d__law_pick := d__law_pick, d__law_tie := d__law_tie, d__law_round := d__law_round, d__law_table := d__law_table, d__law_kept := d__law_kept, d_is_tie := d_is_tie, d_round_rows := d_round_rows, d_kinds_along := d_kinds_along, d__law_web := d__law_web, d__law_most := d__law_most, d_is_web_value := d_is_web_value, d_raw_round := d_raw_round, d_is_row_value := d_is_row_value, d_kind_of := d_kind_of, d_all_addresses := d_all_addresses, d__law_growth := d__law_growth, d__law_start := d__law_start, d_is_growth_value := d_is_growth_value, d_need_web := d_need_web, d_is_address_value := d_is_address_value, d_web_around := d_web_around, d__law_book := d__law_book, d_is_book_value := d_is_book_value, d_is_address_after := d_is_address_after, d__law_garden := d__law_garden, d_is_garden_value := d_is_garden_value, d_need_book := d_need_book, d_one_round := d_one_round, d_need_garden := d_need_garden, d_grown_book := d_grown_book, d_need_row := d_need_row, d_need_born := d_need_born, d_repeated := d_repeated, d_row_kind := d_row_kind, d_row_ends := d_row_ends, d_degrees := d_degrees, d_grown := d_grown, d_book_power := d_book_power, d_address_of := d_address_of, d_place_of := d_place_of, d__law_renaming := d__law_renaming, d__law_have_degrees := d__law_have_degrees, d__law_go_on := d__law_go_on } d_law ?lg ?lb ?pg ?pb TT ?t1 ?t2 ?t3 ?t4 ?t5 ?t6 ?t7
    (case lg => k_is)
    (case lb => k_is)
    (case pg => rfl)
    (case pb => rfl)
    (case t1 => decide)
    (case t2 => decide)
    (case t3 => decide)
    (case t4 => kernel_rfl)
    (case t5 => kernel_rfl)
    (case t6 => kernel_rfl)
    (case t7 => kernel_rfl)
