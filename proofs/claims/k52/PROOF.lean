import PyProof.Rows.All
import Wide.All
import OpenK.AllK
import Wide.FinOn
import HandS.ForMost
import HandS.Wide
import HandS.Walk
import HandS.Style
import HandS.IsInst
import HandS.CallLocal
import HandS.Steps
import HandS.More
import HandS.SortRule
import HandS.Defaults
import HandS.TryOnly
import HandS.WordsExc
import HandS.HeadHook2
import HandS.Strs
import HandS.SetFor
import HandS.Zip
import PyProof.SumAnyB
import PyProof.ListOps
import KE.DataFind
import PySem.Challenge.RW_muchalike_k52_whole_papers_made_by_other
import KE.KStateDown
import Lean
import HandS.Head0
import HandS.Head1
import HandS.Head2
import HandS.HeadEnd
import HandS.HeadHook1
import HandS.HeadHook3
import HandS.HeadHook4
import HandS.DeepEq
import PyProof.NeKinds
import KE.SortData
import KE.LtData
import KE.KSortTupAny
set_option Elab.async false
set_option linter.all false
set_option maxRecDepth 100000
set_option maxHeartbeats 4000000
/-! Denotations of values, environments, and what a reading gives, freed of heaps. -/
namespace Mu
open PySem PySem.Spec PyProof.Rows L2
/-- what a value stands for: true at a known part of the heap, and at any that grows from it -/
abbrev SSt := List (Option V)
structure Dn where
  p : V → Hp → Prop
  mono : ∀ v N N', Same N N' → p v N → p v N'
abbrev Rep (N : Hp) : List Dn → List V → Prop := Paired fun d v => d.p v N
theorem Rep.mono {N N' : Hp} (s : Same N N') {ds : List Dn} {vs : List V} (r : Rep N ds vs) : Rep N' ds vs := Paired.mapP r fun d v h => d.mono v N N' s h
theorem Rep.len {N : Hp} {ds : List Dn} {vs : List V} (r : Rep N ds vs) : ds.length = vs.length := Paired.length r
theorem Rep.at : ∀ {N : Hp} {ds : List Dn} {vs : List V} {i : Nat} {d : Dn}, Rep N ds vs → ds[i]? = some d → ∃ v, vs[i]? = some v ∧ d.p v N
  | _, _, _, _, _, .nil, e => by simp at e
  | _, _, _, 0, _, .cons r _, e => by simp at e; subst e; exact ⟨_, rfl, r⟩
  | _, _, _, i + 1, d, .cons _ t, e => by
    obtain ⟨u, h1, h2⟩ := Rep.at (i := i) (d := d) t (by simpa using e)
    exact ⟨u, by simpa using h1, h2⟩
theorem Rep.back : ∀ {N : Hp} {ds : List Dn} {vs : List V} {i : Nat} {v : V}, Rep N ds vs → vs[i]? = some v → ∃ d, ds[i]? = some d ∧ d.p v N
  | _, _, _, _, _, .nil, e => by simp at e
  | _, _, _, 0, _, .cons r _, e => by simp at e; subst e; exact ⟨_, rfl, r⟩
  | _, _, _, i + 1, d, .cons _ t, e => by
    obtain ⟨u, h1, h2⟩ := Rep.back (i := i) (v := d) t (by simpa using e)
    exact ⟨u, by simpa using h1, h2⟩
theorem Rep.app : ∀ {N : Hp} {ds es : List Dn} {vs ws : List V}, Rep N ds vs → Rep N es ws → Rep N (ds ++ es) (vs ++ ws)
  | _, _, _, _, _, .nil, s => s
  | _, _, _, _, _, .cons r t, s => .cons r (Rep.app t s)
theorem Rep.take : ∀ {N : Hp} {ds : List Dn} {vs : List V} (n : Nat), Rep N ds vs → Rep N (ds.take n) (vs.take n)
  | _, _, _, 0, _ => .nil
  | _, _, _, _ + 1, .nil => .nil
  | _, _, _, n + 1, .cons r t => .cons r (Rep.take n t)
theorem Rep.drop : ∀ {N : Hp} {ds : List Dn} {vs : List V} (n : Nat), Rep N ds vs → Rep N (ds.drop n) (vs.drop n)
  | _, _, _, 0, r => r
  | _, _, _, _ + 1, .nil => .nil
  | _, _, _, n + 1, .cons _ t => Rep.drop n t
theorem Rep.one {N : Hp} {d : Dn} {v : V} (h : d.p v N) : Rep N [d] [v] := .cons h .nil
theorem Rep.snoc {N : Hp} {ds : List Dn} {vs : List V} {d : Dn} {v : V} (r : Rep N ds vs) (h : d.p v N) : Rep N (ds ++ [d]) (vs ++ [v]) := r.app (.one h)
theorem Rep.eraseIdx : ∀ {N : Hp} {ds : List Dn} {vs : List V} (i : Nat), Rep N ds vs → Rep N (ds.eraseIdx i) (vs.eraseIdx i)
  | _, _, _, _, .nil => .nil
  | _, _, _, 0, .cons _ t => t
  | _, _, _, i + 1, .cons r t => .cons r (Rep.eraseIdx i t)
def dI (i : Int) : Dn := ⟨fun v _ => v = .int i, fun _ _ _ _ h => h⟩
def dB (b : Bool) : Dn := ⟨fun v _ => v = .bl b, fun _ _ _ _ h => h⟩
def dS (x : Str) : Dn := ⟨fun v _ => v = .str x, fun _ _ _ _ h => h⟩
def dN : Dn := ⟨fun v _ => v = .non, fun _ _ _ _ h => h⟩
/-- exactly this value (a def, a built-in class) -/
def dV (z : V) : Dn := ⟨fun v _ => v = z, fun _ _ _ _ h => h⟩
def dL (ds : List Dn) : Dn := ⟨fun v N => ∃ a vs, v = .ref a ∧ N a = some (.lst vs) ∧ Rep N ds vs, fun _ _ _ s ⟨a, vs, e, h, r⟩ => ⟨a, vs, e, s a _ h, r.mono s⟩⟩
def dT (ds : List Dn) : Dn := ⟨fun v N => ∃ a vs, v = .ref a ∧ N a = some (.tup vs) ∧ Rep N ds vs, fun _ _ _ s ⟨a, vs, e, h, r⟩ => ⟨a, vs, e, s a _ h, r.mono s⟩⟩
/-- a dict of text keys, flat values -/
def dD (kvs : List (Str × V)) : Dn := ⟨fun v N => ∃ a, v = .ref a ∧ N a = some (.dK (kvs.map fun p => (Sum.inr p.1, p.2))), fun _ _ _ s ⟨a, e, h⟩ => ⟨a, e, s a _ h⟩⟩
/-- it says nothing of the heap -/
def Dn.Flat (d : Dn) : Prop := ∀ v N N', d.p v N → d.p v N'
theorem flI {i : Int} : (dI i).Flat := fun _ _ _ h => h
theorem flB {b : Bool} : (dB b).Flat := fun _ _ _ h => h
theorem flS {x : Str} : (dS x).Flat := fun _ _ _ h => h
theorem flN : dN.Flat := fun _ _ _ h => h
/-- the known heap N within H goes to N' within H'; what stood outside of N stays outside of N' -/
structure Nx (N H N' H' : Hp) : Prop where
  n : Same N N'
  s : Same N' H'
  h : Same H H'
  f : ∀ a, N a = none → H a ≠ none → N' a = none
theorem Nx.refl {N H : Hp} (s : Same N H) : Nx N H N H := ⟨Same.refl _, s, Same.refl _, fun _ e _ => e⟩
theorem Nx.trans {N H N1 H1 N2 H2 : Hp} (a : Nx N H N1 H1) (b : Nx N1 H1 N2 H2) : Nx N H N2 H2 :=
  ⟨a.n.trans b.n, b.s, a.h.trans b.h, fun x e ne => b.f x (a.f x e ne) fun z => ne (a.h.free z)⟩
/-- a new object, known from then on -/
theorem Nx.new {N H : Hp} {p : Addr} {o : HO} (s : Same N H) (hp : H p = none) : Nx N H (upd N p o) (upd H p o) := by
  have np : N p = none := s.free hp
  refine ⟨fun b u e => ?_, fun b u e => ?_, fun b u e => ?_, fun b e ne => ?_⟩
  · rw [upd_ne (ne_of_none e np)]; exact e
  · by_cases hb : b = p
    · subst hb; rw [upd_same] at e ⊢; exact e
    · rw [upd_ne hb] at e ⊢; exact s b u e
  · rw [upd_ne (ne_of_none e hp)]; exact e
  · have hb : b ≠ p := fun z => by subst z; exact ne hp
    rw [upd_ne hb]; exact e
/-- a new object that stays one's own -/
theorem Nx.own {N H : Hp} {p : Addr} {o : HO} (s : Same N H) (hp : H p = none) : Nx N H N (upd H p o) :=
  ⟨Same.refl _, fun b u e => by rw [upd_ne (ne_of_none (s b u e) hp)]; exact s b u e, fun b u e => by rw [upd_ne (ne_of_none e hp)]; exact e, fun _ e _ => e⟩
/-- an own object becomes known -/
theorem Nx.tell {N H N' H' : Hp} {p : Addr} {o : HO} (x : Nx N H N' H') (hp : H p = none) (ho : H' p = some o) (np : N' p = none) : Nx N H (upd N' p o) H' := by
  refine ⟨fun b u e => ?_, fun b u e => ?_, x.h, fun b e ne => ?_⟩
  · rw [upd_ne (ne_of_none (x.n b u e) np)]; exact x.n b u e
  · by_cases hb : b = p
    · subst hb; rw [upd_same] at e; rw [← e]; exact ho
    · rw [upd_ne hb] at e; exact x.s b u e
  · have hb : b ≠ p := fun z => by subst z; exact ne hp
    rw [upd_ne hb]; exact x.f b e ne
/-- what was known for a while, forgotten -/
theorem Nx.less {N N1 H N' H' : Hp} (s : Same N H) (x : Nx N1 H N' H') : Nx N H N H' := ⟨Same.refl _, s.trans x.h, x.h, fun _ e _ => e⟩
abbrev Ro := List (Option Dn)
/-- the slots hold what the list tells -/
structure En (ρ : Ro) (σ : SSt) (N : Hp) : Prop where
  len : ρ.length = σ.length
  all : ∀ (i : Nat) (d : Dn), ρ[i]? = some (some d) → ∃ v, σ[i]? = some (some v) ∧ d.p v N
theorem En.mono {ρ : Ro} {σ : SSt} {N N' : Hp} (e : En ρ σ N) (s : Same N N') : En ρ σ N' := ⟨e.len, fun i d h => let ⟨v, a, b⟩ := e.all i d h; ⟨v, a, d.mono v N N' s b⟩⟩
theorem En.set {ρ : Ro} {σ : SSt} {N : Hp} (e : En ρ σ N) {i : Nat} {d : Dn} {v : V} (h : d.p v N) : En (ρ.set i (some d)) (σ.set i (some v)) N := by
  refine ⟨by rw [List.length_set, List.length_set]; exact e.len, fun j d' hj => ?_⟩
  by_cases hij : i = j
  · subst hij
    have hl : i < ρ.length := by
      have := (List.getElem?_eq_some_iff.mp hj).1
      simpa using this
    rw [List.getElem?_set_self hl] at hj
    have e1 : d = d' := Option.some.inj (Option.some.inj hj)
    subst e1
    exact ⟨v, List.getElem?_set_self (by rw [← e.len]; exact hl), h⟩
  · rw [List.getElem?_set_ne hij] at hj
    rw [List.getElem?_set_ne hij]
    exact e.all j d' hj
theorem En.none {ρ : Ro} {σ : SSt} {N : Hp} (e : En ρ σ N) {i : Nat} {x : Option V} : En (ρ.set i none) (σ.set i x) N := by
  refine ⟨by rw [List.length_set, List.length_set]; exact e.len, fun j d' hj => ?_⟩
  by_cases hij : i = j
  · subst hij
    have hl : i < ρ.length := by
      have := (List.getElem?_eq_some_iff.mp hj).1
      simpa using this
    rw [List.getElem?_set_self hl] at hj
    cases hj
  · rw [List.getElem?_set_ne hij] at hj
    rw [List.getElem?_set_ne hij]
    exact e.all j d' hj
def wipeR (ρ : Ro) : List Nat → Ro
  | [] => ρ
  | v :: vs => (wipeR ρ vs).set v none
theorem En.wipe {ρ : Ro} {σ : SSt} {N : Hp} (e : En ρ σ N) : ∀ vs : List Nat, En (wipeR ρ vs) (L2.wipe σ vs) N
  | [] => e
  | _ :: vs => (e.wipe vs).none
/-- the second tells less -/
def Le : Ro → Ro → Prop
  | [], [] => True
  | x :: r, y :: s => (y = none ∨ y = x) ∧ Le r s
  | _, _ => False
theorem Le.refl : ∀ ρ : Ro, Le ρ ρ
  | [] => trivial
  | _ :: r => ⟨.inr rfl, Le.refl r⟩
theorem Le.len : ∀ {ρ ρ' : Ro}, Le ρ ρ' → ρ.length = ρ'.length
  | [], [], _ => rfl
  | _ :: _, _ :: _, h => congrArg (· + 1) (Le.len h.2)
  | [], _ :: _, h => h.elim
  | _ :: _, [], h => h.elim
theorem Le.at : ∀ {ρ ρ' : Ro} {i : Nat} {d : Dn}, Le ρ ρ' → ρ'[i]? = some (some d) → ρ[i]? = some (some d)
  | [], [], _, _, _, e => e
  | _ :: _, _ :: _, 0, _, h, e => by
    simp at e
    rcases h.1 with z | z
    · rw [z] at e; cases e
    · rw [← z, e]; rfl
  | _ :: _, _ :: _, i + 1, d, h, e => by
    have := Le.at (i := i) (d := d) h.2 (by simpa using e)
    simpa using this
  | [], _ :: _, _, _, h, _ => h.elim
  | _ :: _, [], _, _, h, _ => h.elim
theorem En.le {ρ ρ' : Ro} {σ : SSt} {N : Hp} (e : En ρ σ N) (l : Le ρ ρ') : En ρ' σ N := ⟨l.len.symm.trans e.len, fun i d h => e.all i d (l.at h)⟩
/-! ### what a reading gives -/
def Ev (te : TE) (ρ : Ro) (d : Dn) : Prop := ∀ σ N H, En ρ σ N → Same N H → ∀ Q : VK, (∀ v N' H', Nx N H N' H' → d.p v N' → Q v H') → te σ H Q
/-- a new list, one's own -/
def EvN (te : TE) (ρ : Ro) (ds : List Dn) : Prop := ∀ σ N H, En ρ σ N → Same N H → ∀ Q : VK, (∀ a vs N' H', Nx N H N' H' → H a = none → N' a = none → H' a = some (.lst vs) → Rep N' ds vs → Q (.ref a) H') → te σ H Q
def EvT (tt : TT) (ρ : Ro) (b : Bool) : Prop := ∀ σ N H, En ρ σ N → Same N H → ∀ Q : Bool → Hp → Prop, (∀ N' H', Nx N H N' H' → Q b H') → tt σ H Q
def EvA (ta : TA) (ρ : Ro) (ds : List Dn) : Prop := ∀ σ N H, En ρ σ N → Same N H → ∀ Q : List V → Hp → Prop, (∀ vs N' H', Nx N H N' H' → Rep N' ds vs → Q vs H') → ta σ H Q
def EvO (to : TO) (ρ : Ro) (o : Option Int) : Prop := ∀ σ N H, En ρ σ N → Same N H → ∀ Q : Option Int → Hp → Prop, (∀ N' H', Nx N H N' H' → Q o H') → to σ H Q
/-- operations on values -/
def RvR (r : R2) (d e z : Dn) : Prop := ∀ x y N H, Same N H → d.p x N → e.p y N → ∀ Q : VK, (∀ v N' H', Nx N H N' H' → z.p v N' → Q v H') → r x y H Q
def RvN (r : R2) (d e : Dn) (zs : List Dn) : Prop := ∀ x y N H, Same N H → d.p x N → e.p y N → ∀ Q : VK, (∀ a vs N' H', Nx N H N' H' → H a = none → N' a = none → H' a = some (.lst vs) → Rep N' zs vs → Q (.ref a) H') → r x y H Q
def RvC (r : List V → Hp → VK → Prop) (ds : List Dn) (z : Dn) : Prop := ∀ xs N H, Same N H → Rep N ds xs → ∀ Q : VK, (∀ v N' H', Nx N H N' H' → z.p v N' → Q v H') → r xs H Q
def RvCN (r : List V → Hp → VK → Prop) (ds zs : List Dn) : Prop := ∀ xs N H, Same N H → Rep N ds xs → ∀ Q : VK, (∀ a vs N' H', Nx N H N' H' → H a = none → N' a = none → H' a = some (.lst vs) → Rep N' zs vs → Q (.ref a) H') → r xs H Q
theorem EvN.ev {te : TE} {ρ : Ro} {ds : List Dn} (h : EvN te ρ ds) : Ev te ρ (dL ds) := fun σ N H e s Q q => h σ N H e s Q fun a vs N' H' x hp np ho r =>
  q _ _ _ (x.tell hp ho np) ⟨a, vs, rfl, upd_same, r.mono fun b u z => by rw [upd_ne (ne_of_none z np)]; exact z⟩
theorem Ev.is {te : TE} {ρ : Ro} {d d' : Dn} (h : Ev te ρ d) (e : d = d') : Ev te ρ d' := e ▸ h
theorem EvN.is {te : TE} {ρ : Ro} {d d' : List Dn} (h : EvN te ρ d) (e : d = d') : EvN te ρ d' := e ▸ h
theorem EvT.is {te : TT} {ρ : Ro} {d d' : Bool} (h : EvT te ρ d) (e : d = d') : EvT te ρ d' := e ▸ h
section
variable {ρ : Ro} {ta tb tc te : TE} {d e z : Dn}
theorem ev_var {i : Nat} (h : ρ[i]? = some (some d)) : Ev (tVar i) ρ d := fun σ N H e s Q q => by
  obtain ⟨v, a, b⟩ := e.all i d h
  exact ⟨v, a, q v N H (.refl s) b⟩
theorem ev_c {v : V} (h : ∀ N, d.p v N) : Ev (tC v) ρ d := fun σ N H e s Q q => q v N H (.refl s) (h N)
theorem ev_int {i : Int} : Ev (tC (.int i)) ρ (dI i) := ev_c fun _ => rfl
theorem ev_bl {i : Bool} : Ev (tC (.bl i)) ρ (dB i) := ev_c fun _ => rfl
theorem ev_str {i : Str} : Ev (tC (.str i)) ρ (dS i) := ev_c fun _ => rfl
theorem ev_non : Ev (tC .non) ρ dN := ev_c fun _ => rfl
theorem ev_val {v : V} : Ev (tC v) ρ (dV v) := ev_c fun _ => rfl
theorem ev_op {r : R2} (ha : Ev ta ρ d) (hb : Ev tb ρ e) (hr : RvR r d e z) : Ev (tOp r ta tb) ρ z := fun σ N H en s Q q =>
  ha σ N H en s _ fun x N1 H1 x1 p1 => hb σ N1 H1 (en.mono x1.n) x1.s _ fun y N2 H2 x2 p2 => hr x y N2 H2 x2.s (d.mono _ _ _ x2.n p1) p2 Q fun v N3 H3 x3 p3 => q v N3 H3 ((x1.trans x2).trans x3) p3
theorem ev_opN {r : R2} {zs : List Dn} (ha : Ev ta ρ d) (hb : Ev tb ρ e) (hr : RvN r d e zs) : EvN (tOp r ta tb) ρ zs := fun σ N H en s Q q =>
  ha σ N H en s _ fun x N1 H1 x1 p1 => hb σ N1 H1 (en.mono x1.n) x1.s _ fun y N2 H2 x2 p2 => hr x y N2 H2 x2.s (d.mono _ _ _ x2.n p1) p2 Q fun a vs N3 H3 x3 h0 h1 h2 h3 =>
    q a vs N3 H3 ((x1.trans x2).trans x3) ((x1.trans x2).h.free h0) h1 h2 h3
theorem rv_I0 {g : Int → Int → V} {i j : Int} (hz : ∀ N, z.p (g i j) N) : RvR (rI0 g) (dI i) (dI j) z := fun x y N H s hx hy Q q => ⟨i, j, hx, hy, q _ N H (.refl s) (hz N)⟩
theorem rv_I {C : Int → Int → Prop} {g : Int → Int → V} {i j : Int} (hc : C i j) (hz : ∀ N, z.p (g i j) N) : RvR (rI C g) (dI i) (dI j) z := fun x y N H s hx hy Q q => ⟨i, j, hx, hy, hc, q _ N H (.refl s) (hz N)⟩
theorem ea_nil : EvA tNil ρ [] := fun σ N H e s Q q => q [] N H (.refl s) .nil
theorem ea_cons {tr : TA} {ds : List Dn} (ha : Ev ta ρ d) (hr : EvA tr ρ ds) : EvA (tCons ta tr) ρ (d :: ds) := fun σ N H en s Q q =>
  ha σ N H en s _ fun x N1 H1 x1 p1 => hr σ N1 H1 (en.mono x1.n) x1.s _ fun vs N2 H2 x2 p2 => q _ N2 H2 (x1.trans x2) (.cons (d.mono _ _ _ x2.n p1) p2)
theorem ev_tup {t : TA} {ds : List Dn} (h : EvA t ρ ds) (hl : ds.length ≤ 1000000 := by first | exact Nat.le_of_ble_eq_true rfl | decide) : Ev (tTup t) ρ (dT ds) := fun σ N H en s Q q =>
  h σ N H en s _ fun vs N1 H1 x1 r => ⟨by rw [← r.len, sizeLine_eq]; omega, fun p hp => q _ _ _ (x1.trans (.new x1.s hp)) ⟨p, vs, rfl, upd_same, r.mono (Nx.new x1.s hp).n⟩⟩
theorem en_lst {t : TA} {ds : List Dn} (h : EvA t ρ ds) (hl : ds.length ≤ 1000000 := by first | exact Nat.le_of_ble_eq_true rfl | decide) : EvN (tLst t) ρ ds := fun σ N H en s Q q =>
  h σ N H en s _ fun vs N1 H1 x1 r => ⟨by rw [← r.len, sizeLine_eq]; omega, fun p hp => q p vs N1 _ (x1.trans (.own x1.s hp)) (x1.h.free hp) (x1.s.free hp) upd_same r⟩
theorem ev_cb {r : List V → Hp → VK → Prop} {t : TA} {ds : List Dn} (h : EvA t ρ ds) (hr : RvC r ds z) : Ev (tCB r t) ρ z := fun σ N H en s Q q =>
  h σ N H en s _ fun vs N1 H1 x1 p => hr vs N1 H1 x1.s p Q fun v N2 H2 x2 p2 => q v N2 H2 (x1.trans x2) p2
theorem en_cb {r : List V → Hp → VK → Prop} {t : TA} {ds zs : List Dn} (h : EvA t ρ ds) (hr : RvCN r ds zs) : EvN (tCB r t) ρ zs := fun σ N H en s Q q =>
  h σ N H en s _ fun vs N1 H1 x1 p => hr vs N1 H1 x1.s p Q fun a ws N2 H2 x2 h0 h1 h2 h3 => q a ws N2 H2 (x1.trans x2) (x1.h.free h0) h1 h2 h3
theorem et_test {b : Bool} (h : Ev te ρ (dB b)) : EvT (tTest te) ρ b := fun σ N H en s Q q => h σ N H en s _ fun v N1 H1 x1 p => ⟨b, p, q N1 H1 x1⟩
theorem et_B {b : Bool} (h : Ev te ρ (dB b)) : EvT (tB te) ρ b := fun σ N H en s Q q => h σ N H en s _ fun v N1 H1 x1 p => ⟨b, p, q N1 H1 x1⟩
theorem et_and {t u : TT} {a b : Bool} (h1 : EvT t ρ a) (h2 : a = true → EvT u ρ b) : EvT (tAnd t u) ρ (a && b) := fun σ N H en s Q q => h1 σ N H en s _ fun N1 H1 x1 => by
  cases a with
  | true => exact (if_pos rfl).mpr (h2 rfl σ N1 H1 (en.mono x1.n) x1.s Q fun N2 H2 x2 => q N2 H2 (x1.trans x2))
  | false => exact (if_neg Bool.false_ne_true).mpr (q N1 H1 x1)
theorem et_or {t u : TT} {a b : Bool} (h1 : EvT t ρ a) (h2 : a = false → EvT u ρ b) : EvT (tOr t u) ρ (a || b) := fun σ N H en s Q q => h1 σ N H en s _ fun N1 H1 x1 => by
  cases a with
  | true => exact (if_pos rfl).mpr (q N1 H1 x1)
  | false => exact (if_neg Bool.false_ne_true).mpr (h2 rfl σ N1 H1 (en.mono x1.n) x1.s Q fun N2 H2 x2 => q N2 H2 (x1.trans x2))
theorem et_not {t : TT} {a : Bool} (h : EvT t ρ a) : EvT (tNot t) ρ (!a) := fun σ N H en s Q q => h σ N H en s _ fun N1 H1 x1 => q N1 H1 x1
theorem ev_andV {a b : Bool} (h1 : Ev ta ρ (dB a)) (h2 : a = true → Ev tb ρ (dB b)) : Ev (tAndV ta tb) ρ (dB (a && b)) := fun σ N H en s Q q => h1 σ N H en s _ fun v N1 H1 x1 p => ⟨a, p, by
  cases a with
  | true => exact (if_pos rfl).mpr (h2 rfl σ N1 H1 (en.mono x1.n) x1.s Q fun v N2 H2 x2 p2 => q v N2 H2 (x1.trans x2) p2)
  | false => exact (if_neg Bool.false_ne_true).mpr (q _ N1 H1 x1 rfl)⟩
theorem ev_orV {a b : Bool} (h1 : Ev ta ρ (dB a)) (h2 : a = false → Ev tb ρ (dB b)) : Ev (tOrV ta tb) ρ (dB (a || b)) := fun σ N H en s Q q => h1 σ N H en s _ fun v N1 H1 x1 p => ⟨a, p, by
  cases a with
  | true => exact (if_pos rfl).mpr (q _ N1 H1 x1 rfl)
  | false => exact (if_neg Bool.false_ne_true).mpr (h2 rfl σ N1 H1 (en.mono x1.n) x1.s Q fun v N2 H2 x2 p2 => q v N2 H2 (x1.trans x2) p2)⟩
theorem ev_notV {a : Bool} (h1 : Ev ta ρ (dB a)) : Ev (tNotV ta) ρ (dB (!a)) := fun σ N H en s Q q => h1 σ N H en s _ fun v N1 H1 x1 p => ⟨a, p, q _ N1 H1 x1 rfl⟩
theorem eo_none : EvO tNoPart ρ none := fun σ N H en s Q q => q N H (.refl s)
theorem eo_some {i : Int} (h : Ev te ρ (dI i)) : EvO (tPart te) ρ (some i) := fun σ N H en s Q q => h σ N H en s _ fun v N1 H1 x1 p => ⟨i, p, q N1 H1 x1⟩
end
/-! ### a def's promise -/
/-- from arguments that stand for ds it hands back what stands for d, where Φ says so -/
def spF (Φ : List Dn → Dn → Prop) : Sp := fun vs H Q _ => ∃ N ds d, Φ ds d ∧ Same N H ∧ Rep N ds vs ∧ ∀ v N' H', Nx N H N' H' → d.p v N' → Q v H'
/-- .. a new list, the caller's own -/
def spN (Φ : List Dn → List Dn → Prop) : Sp := fun vs H Q _ => ∃ N ds zs, Φ ds zs ∧ Same N H ∧ Rep N ds vs ∧ ∀ a ws N' H', Nx N H N' H' → H a = none → N' a = none → H' a = some (.lst ws) → Rep N' zs ws → Q (.ref a) H'
section
variable {ρ : Ro}
theorem ev_call {Φ : List Dn → Dn → Prop} {t : TA} {ds : List Dn} {d : Dn} (h : EvA t ρ ds) (f : Φ ds d) : Ev (tCall (spF Φ) [] E0 t) ρ d := fun σ N H en s Q q =>
  h σ N H en s _ fun vs N1 H1 x1 r => by
    rw [List.append_nil]
    exact ⟨N1, ds, d, f, x1.s, r, fun v N2 H2 x2 p => q v N2 H2 (x1.trans x2) p⟩
theorem en_call {Φ : List Dn → List Dn → Prop} {t : TA} {ds zs : List Dn} (h : EvA t ρ ds) (f : Φ ds zs) : EvN (tCall (spN Φ) [] E0 t) ρ zs := fun σ N H en s Q q =>
  h σ N H en s _ fun vs N1 H1 x1 r => by
    rw [List.append_nil]
    exact ⟨N1, ds, zs, f, x1.s, r, fun a ws N2 H2 x2 h0 h1 h2 h3 => q a ws N2 H2 (x1.trans x2) (x1.h.free h0) h1 h2 h3⟩
end
end Mu
/-! Statements, loops, comprehensions, over denotations. -/
namespace Mu
open PySem PySem.Spec PyProof.Rows L2
/-- an object of one's own, at the slot k: c of its value, the entry's heap, the known heap, the heap -/
structure Ow where
  k : Nat
  c : V → Hp → Hp → Hp → Prop
  st : ∀ v H0 N H N' H', Nx N H N' H' → c v H0 N H → c v H0 N' H'
/-- a list of one's own -/
def oL (k : Nat) (ds : List Dn) : Ow := ⟨k, fun v H0 N H => ∃ a vs, v = .ref a ∧ H0 a = none ∧ N a = none ∧ H a = some (.lst vs) ∧ Rep N ds vs,
  fun v H0 N H N' H' x ⟨a, vs, e, h0, n, h, r⟩ => ⟨a, vs, e, h0, x.f a n (by rw [h]; simp), x.h a _ h, r.mono x.n⟩⟩
/-- a dict of one's own -/
def oD (k : Nat) (kvs : List (Str × V)) : Ow := ⟨k, fun v H0 N H => ∃ a, v = .ref a ∧ H0 a = none ∧ N a = none ∧ H a = some (.dK (kvs.map fun p => (Sum.inr p.1, p.2))),
  fun v H0 N H N' H' x ⟨a, e, h0, n, h⟩ => ⟨a, e, h0, x.f a n (by rw [h]; simp), x.h a _ h⟩⟩
def okK : Option Ow → Nat → Bool
  | none, _ => true
  | some w, i => !(Nat.beq w.k i)
def okKs (o : Option Ow) : List Nat → Bool
  | [] => true
  | i :: js => okK o i && okKs o js
theorem okK_ne {o : Option Ow} {i : Nat} (h : okK o i = true) : ∀ w, o = some w → w.k ≠ i := fun w e => by
  subst e
  intro e2
  simp [okK, e2] at h
theorem okKs_ne {o : Option Ow} : ∀ {js : List Nat}, okKs o js = true → ∀ w, o = some w → w.k ∉ js
  | [], _, _, _ => by simp
  | i :: js, h, w, e => by
    have h : okK o i = true ∧ okKs o js = true := by simpa [okKs] using h
    rw [List.mem_cons]
    exact fun z => z.elim (okK_ne h.1 w e) (okKs_ne h.2 w e)
structure Sx (M N0 H0 : Hp) (ρ : Ro) (o : Option Ow) (σ : SSt) (N H : Hp) : Prop where
  m : Same M N
  x : Nx N0 H0 N H
  e : En ρ σ N
  o : ∀ w, o = some w → ∃ v, σ[w.k]? = some (some v) ∧ w.c v H0 N H
abbrev Bd := Hp → Hp → Hp → Ends → Prop
def Go (ts : TS) (ρ : Ro) (o : Option Ow) (B : Bd) : Prop := ∀ M N0 H0 σ N H D, Sx M N0 H0 ρ o σ N H → B M N0 H0 D → ts D σ H
/-- it hands back what d tells -/
def Brt (d : Dn) : Bd := fun _ N0 H0 D => ∀ v N' H', Nx N0 H0 N' H' → d.p v N' → D.rt v H'
/-- it hands back a new list, the caller's own -/
def BrtN (ds : List Dn) : Bd := fun _ N0 H0 D => ∀ a vs N' H', Nx N0 H0 N' H' → H0 a = none → N' a = none → H' a = some (.lst vs) → Rep N' ds vs → D.rt (.ref a) H'
/-- it goes on with these slots -/
def Bnx (ρ : Ro) (o : Option Ow) : Bd := fun M N0 H0 D => ∀ σ N H, Sx M N0 H0 ρ o σ N H → D.nx σ H
/-- it goes on, to the def's end -/
def Bend : Bd := fun _ N0 H0 D => ∀ σ N H, Nx N0 H0 N H → D.nx σ H
section
variable {M N0 H0 N H N' H' : Hp} {ρ ρ' : Ro} {o o' : Option Ow} {σ : SSt} {B : Bd} {t u z : TS} {te : TE} {c : TT} {d : Dn} {ds es : List Dn} {k i : Nat}
/-- behind an evaluation -/
theorem Sx.step (s : Sx M N0 H0 ρ o σ N H) (x : Nx N H N' H') : Sx M N0 H0 ρ o σ N' H' :=
  ⟨s.m.trans x.n, s.x.trans x, s.e.mono x.n, fun w e => let ⟨v, a, b⟩ := s.o w e; ⟨v, a, w.st _ _ _ _ _ _ x b⟩⟩
theorem Sx.le (s : Sx M N0 H0 ρ o σ N H) (l : Le ρ ρ') : Sx M N0 H0 ρ' o σ N H := ⟨s.m, s.x, s.e.le l, s.o⟩
theorem Sx.drop (s : Sx M N0 H0 ρ o σ N H) : Sx M N0 H0 ρ none σ N H := ⟨s.m, s.x, s.e, fun _ e => nomatch e⟩
theorem Sx.set {v : V} (s : Sx M N0 H0 ρ o σ N H) (h : d.p v N) (hk : ∀ w, o = some w → w.k ≠ i) : Sx M N0 H0 (ρ.set i (some d)) o (σ.set i (some v)) N H :=
  ⟨s.m, s.x, s.e.set h, fun w e => let ⟨v, a, b⟩ := s.o w e; ⟨v, by rw [List.getElem?_set_ne (fun z => hk w e z.symm)]; exact a, b⟩⟩
theorem Sx.hk (s : Sx M N0 H0 ρ o σ N H) : Same N H := s.x.s
theorem go_le (l : Le ρ ρ') (h : Go t ρ' o B) : Go t ρ o B := fun M N0 H0 σ N H D s b => h M N0 H0 σ N H D (s.le l) b
theorem go_nextz (h : Go z ρ o B) : Go (tSeq tNext z) ρ o B := h
theorem go_assoc {s r : TS} (h : Go (tSeq s (tSeq r z)) ρ o B) : Go (tSeq (tSeq s r) z) ρ o B := h
theorem go_next (l : Le ρ ρ') : Go tNext ρ o (Bnx ρ' o) := fun M N0 H0 σ N H D s b => b σ N H (s.le l)
theorem go_nextO (l : Le ρ ρ') (e : o = o') : Go tNext ρ o (Bnx ρ' o') := e ▸ go_next l
theorem go_nextD (l : Le ρ ρ') : Go tNext ρ o (Bnx ρ' none) := fun M N0 H0 σ N H D s b => b σ N H (s.le l).drop
theorem go_end : Go tNext ρ o Bend := fun M N0 H0 σ N H D s b => b σ N H s.x
theorem go_cut (h : Go t ρ o (Bnx ρ' o')) (k : Go z ρ' o' B) : Go (tSeq t z) ρ o B := fun M N0 H0 σ N H D s b => h M N0 H0 σ N H _ s fun σ' N' H' s' => k M N0 H0 σ' N' H' D s' b
theorem go_ret (h : Ev te ρ d) : Go (tSeq (tRet te) z) ρ o (Brt d) := fun M N0 H0 σ N H D s b => h σ N H s.e s.hk _ fun v N' H' x p => b v N' H' (s.x.trans x) p
theorem go_retN (h : EvN te ρ ds) : Go (tSeq (tRet te) z) ρ o (BrtN ds) := fun M N0 H0 σ N H D s b => h σ N H s.e s.hk _ fun a vs N' H' x h0 h1 h2 h3 => b a vs N' H' (s.x.trans x) (s.x.h.free h0) h1 h2 h3
theorem go_asg (h : Ev te ρ d) (k : Go z (ρ.set i (some d)) o B) (hk : okK o i = true := by rfl) : Go (tSeq (tAsg te (gName i)) z) ρ o B :=
  fun M N0 H0 σ N H D s b => h σ N H s.e s.hk _ fun v N' H' x p => k M N0 H0 _ N' H' D ((s.step x).set p (okK_ne hk)) b
theorem go_drop (h : Ev te ρ d) (k : Go z ρ o B) : Go (tSeq (tDrop te) z) ρ o B :=
  fun M N0 H0 σ N H D s b => h σ N H s.e s.hk _ fun v N' H' x p => k M N0 H0 _ N' H' D (s.step x) b
/-- a new list becomes one's own -/
theorem go_asgN (h : EvN te ρ ds) (k : Go z (ρ.set i none) (some (oL i ds)) B) (hi : i < ρ.length := by first | exact Nat.le_of_ble_eq_true rfl | decide) : Go (tSeq (tAsg te (gName i)) z) ρ o B :=
  fun M N0 H0 σ N H D s b => h σ N H s.e s.hk _ fun a vs N' H' x h0 h1 h2 h3 => k M N0 H0 _ N' H' D ⟨s.m.trans x.n, s.x.trans x, (s.e.mono x.n).none, fun w e => by
    cases e
    exact ⟨.ref a, List.getElem?_set_self (by rw [← s.e.len]; exact hi), a, vs, rfl, s.x.h.free h0, h1, h2, h3⟩⟩ b
theorem go_if {b : Bool} (h : EvT c ρ b) (h1 : b = true → Go (tSeq t z) ρ o B) (h2 : b = false → Go (tSeq u z) ρ o B) : Go (tSeq (tIfS c t u) z) ρ o B :=
  fun M N0 H0 σ N H D s bb => h σ N H s.e s.hk _ fun N' H' x => by
    cases b with
    | true => exact (if_pos rfl).mpr (h1 rfl M N0 H0 σ N' H' D (s.step x) bb)
    | false => exact (if_neg Bool.false_ne_true).mpr (h2 rfl M N0 H0 σ N' H' D (s.step x) bb)
/-- both ways meet again -/
theorem go_ifJ {b : Bool} (ρ' : Ro) (o' : Option Ow) (h : EvT c ρ b) (h1 : b = true → Go t ρ o (Bnx ρ' o')) (h2 : b = false → Go u ρ o (Bnx ρ' o')) (k : Go z ρ' o' B) : Go (tSeq (tIfS c t u) z) ρ o B :=
  fun M N0 H0 σ N H D s bb => h σ N H s.e s.hk _ fun N' H' x => by
    have s1 := s.step x
    have s2 : Sx N' N0 H0 ρ o σ N' H' := ⟨Same.refl _, s1.x, s1.e, s1.o⟩
    cases b with
    | true => exact (if_pos rfl).mpr (h1 rfl N' N0 H0 σ N' H' _ s2 fun σ3 N3 H3 s3 => k M N0 H0 σ3 N3 H3 D ⟨s1.m.trans s3.m, s3.x, s3.e, s3.o⟩ bb)
    | false => exact (if_neg Bool.false_ne_true).mpr (h2 rfl N' N0 H0 σ N' H' _ s2 fun σ3 N3 H3 s3 => k M N0 H0 σ3 N3 H3 D ⟨s1.m.trans s3.m, s3.x, s3.e, s3.o⟩ bb)
/-! ### an own list, read for a while -/
theorem own_fz (s : Sx M N0 H0 ρ (some (oL k ds)) σ N H) : ∃ N1, En (ρ.set k (some (dL ds))) σ N1 ∧ Same N1 H ∧ Same N N1 := by
  obtain ⟨v, hv, a, vs, rfl, h0, n, h, r⟩ := s.o _ rfl
  have hv : σ[k]? = some (some (.ref a)) := hv
  have s1 : Same N (upd N a (.lst vs)) := fun b u e => by rw [upd_ne (ne_of_none e n)]; exact e
  have q := (s.e.mono s1).set (i := k) (d := dL ds) (v := .ref a) ⟨a, vs, rfl, upd_same, r.mono s1⟩
  have e1 : σ.set k (some (.ref a)) = σ := by
    refine List.ext_getElem? fun j => ?_
    by_cases hj : k = j
    · subst hj
      rw [hv, List.getElem?_set_self (List.getElem?_eq_some_iff.mp hv).1]
    · rw [List.getElem?_set_ne hj]
  rw [e1] at q
  refine ⟨_, q, fun b u e => ?_, s1⟩
  by_cases hb : b = a
  · subst hb; rw [upd_same] at e; rw [← e]; exact h
  · rw [upd_ne hb] at e; exact s.hk b u e
theorem go_asgF (h : Ev te (ρ.set k (some (dL ds))) d) (f : d.Flat) (z1 : Go z (ρ.set i (some d)) (some (oL k ds)) B) (hk : k ≠ i := by decide) : Go (tSeq (tAsg te (gName i)) z) ρ (some (oL k ds)) B :=
  fun M N0 H0 σ N H D s b => by
    obtain ⟨N1, e, s1, s2⟩ := own_fz s
    refine h σ N1 H e s1 _ fun v N' H' x p => ?_
    have y : Nx N H N H' := Nx.less s.hk x
    exact z1 M N0 H0 _ N H' D ((s.step y).set (f v N' N p) (fun w e => by cases e; exact hk)) b
theorem go_ifF {b : Bool} (h : EvT c (ρ.set k (some (dL ds))) b) (h1 : b = true → Go (tSeq t z) ρ (some (oL k ds)) B) (h2 : b = false → Go (tSeq u z) ρ (some (oL k ds)) B) : Go (tSeq (tIfS c t u) z) ρ (some (oL k ds)) B :=
  fun M N0 H0 σ N H D s bb => by
    obtain ⟨N1, e, s1, s2⟩ := own_fz s
    refine h σ N1 H e s1 _ fun N' H' x => ?_
    have y : Nx N H N H' := Nx.less s.hk x
    cases b with
    | true => exact (if_pos rfl).mpr (h1 rfl M N0 H0 σ N H' D (s.step y) bb)
    | false => exact (if_neg Bool.false_ne_true).mpr (h2 rfl M N0 H0 σ N H' D (s.step y) bb)
/-- an own list becomes known to all -/
theorem go_tell (h : Go z (ρ.set k (some (dL ds))) none B) : Go z ρ (some (oL k ds)) B := fun M N0 H0 σ N H D s b => by
  obtain ⟨v, hv, a, vs, rfl, h0, n, hh, r⟩ := s.o _ rfl
  obtain ⟨N1, e, s1, s2⟩ := own_fz s
  have hv : σ[k]? = some (some (.ref a)) := hv
  have s1 : Same N (upd N a (.lst vs)) := fun b u e => by rw [upd_ne (ne_of_none e n)]; exact e
  have q := (s.e.mono s1).set (i := k) (d := dL ds) (v := .ref a) ⟨a, vs, rfl, upd_same, r.mono s1⟩
  have e1 : σ.set k (some (.ref a)) = σ := by
    refine List.ext_getElem? fun j => ?_
    by_cases hj : k = j
    · subst hj
      rw [hv, List.getElem?_set_self (List.getElem?_eq_some_iff.mp hv).1]
    · rw [List.getElem?_set_ne hj]
  rw [e1] at q
  exact h M N0 H0 σ _ H D ⟨s.m.trans s1, s.x.tell h0 hh n, q, fun _ e => nomatch e⟩ b
/-- xs.append(e), xs one's own -/
theorem go_app {K : PySem.W.Frag} (h : Ev te ρ d) (hl : ds.length < 1000000) (k1 : Go z ρ (some (oL k (ds ++ [d]))) B) : Go (tSeq (tDrop (tBM K "list" rAppend (tVar k) (tCons te tNil))) z) ρ (some (oL k ds)) B :=
  fun M N0 H0 σ N H D s b => by
    obtain ⟨v, hv, a, vs, rfl, h0, n, hh, r⟩ := s.o _ rfl
    refine ⟨_, hv, .inl ⟨rfl, _, SqL.of hh⟩, h σ N H s.e s.hk _ fun v N' H' x p => ?_⟩
    have hh' : H' a = some (.lst vs) := x.h a _ hh
    have na : N' a = none := x.f a n (by rw [hh]; simp)
    refine ⟨a, vs, v, rfl, rfl, hh', by rw [← r.len, sizeLine_eq]; omega, ?_⟩
    have s' := s.step x
    refine k1 M N0 H0 σ N' _ D ⟨s'.m, ⟨s'.x.n, fun b u e => ?_, fun b u e => ?_, s'.x.f⟩, s'.e, fun w e => ?_⟩ b
    · rw [upd_ne (ne_of_none e na)]; exact x.s b u e
    · rw [upd_ne (ne_of_none e h0)]; exact s'.x.h b u e
    · cases e
      exact ⟨_, hv, a, _, rfl, h0, na, upd_same, (r.mono x.n).snoc p⟩
/-- .. of a new list that was reckoned from the own one -/
theorem go_appF {K : PySem.W.Frag} {xs : List Str} (h : EvN te (ρ.set k (some (dL ds))) (xs.map dS)) (hl : ds.length < 1000000) (k1 : Go z ρ (some (oL k (ds ++ [dL (xs.map dS)]))) B) :
    Go (tSeq (tDrop (tBM K "list" rAppend (tVar k) (tCons te tNil))) z) ρ (some (oL k ds)) B :=
  fun M N0 H0 σ N H D s b => by
    obtain ⟨v, hv, a, vs, rfl, h0, n, hh, r⟩ := s.o _ rfl
    obtain ⟨N1, e, s1, s2⟩ := own_fz s
    refine ⟨_, hv, .inl ⟨rfl, _, SqL.of hh⟩, h σ N1 H e s1 _ fun p ws N' H' x hp np hw rw' => ?_⟩
    have hh' : H' a = some (.lst vs) := x.h a _ hh
    have pa : p ≠ a := fun z => by subst z; rw [hh] at hp; cases hp
    have np0 : N p = none := s.hk.free hp
    have y : Nx N H (upd N p (.lst ws)) H' := Nx.tell (Nx.less s.hk x) hp hw np0
    have na : (upd N p (.lst ws)) a = none := by rw [upd_ne pa.symm]; exact n
    refine ⟨a, vs, .ref p, rfl, rfl, hh', by rw [← r.len, sizeLine_eq]; omega, ?_⟩
    have s' := s.step y
    have fl : Rep (upd N p (.lst ws)) (xs.map dS) ws := by
      have gen : ∀ (xs : List Str) (ws : List V), Rep N' (xs.map dS) ws → Rep (upd N p (.lst ws)) (xs.map dS) ws → True := fun _ _ _ _ => trivial
      have g2 : ∀ (A C : Hp) (xs : List Str) (ws : List V), Rep A (xs.map dS) ws → Rep C (xs.map dS) ws := by
        intro A C xs
        induction xs with
        | nil => intro ws q; cases q; exact .nil
        | cons x xs ih => intro ws q; cases q with | cons q1 q2 => exact .cons q1 (ih _ q2)
      exact g2 _ _ _ _ rw'
    refine k1 M N0 H0 σ _ _ D ⟨s'.m, ⟨s'.x.n, fun b u e => ?_, fun b u e => ?_, s'.x.f⟩, s'.e, fun w e => ?_⟩ b
    · rw [upd_ne (ne_of_none e na)]; exact y.s b u e
    · rw [upd_ne (ne_of_none e h0)]; exact s'.x.h b u e
    · cases e
      exact ⟨_, hv, a, _, rfl, h0, na, upd_same, (r.mono y.n).snoc ⟨p, ws, rfl, upd_same, fl⟩⟩
theorem go_retO : Go (tSeq (tRet (tVar k)) z) ρ (some (oL k ds)) (BrtN ds) := fun M N0 H0 σ N H D s b => by
  obtain ⟨v, hv, a, vs, rfl, h0, n, hh, r⟩ := s.o _ rfl
  exact ⟨_, hv, b a vs N H s.x h0 n hh r⟩
end
/-! ### targets -/
def Tgt (g : TG) (d : Dn) (bd : Ro → Ro) (js : List Nat) : Prop := ∀ (x : V) (σ : SSt) (N H : Hp), d.p x N → Same N H → ∀ ρ, En ρ σ N → ∀ Q : SSt → Hp → Prop,
  (∀ σ', En (bd ρ) σ' N → (∀ k, k ∉ js → σ'[k]? = σ[k]?) → σ'.length = σ.length → Q σ' H) → g x σ H Q
theorem tg_name {d : Dn} {j : Nat} : Tgt (gName j) d (fun ρ => ρ.set j (some d)) [j] := fun x σ N H p s ρ e Q q =>
  q _ (e.set p) (fun k hk => by rw [List.getElem?_set_ne (by simpa using fun z => hk (by simp [z]))]) (List.length_set ..)
theorem tg_tup2 {K : PySem.W.Frag} {d e : Dn} {i j : Nat} : Tgt (gTup K 2 (gCons (gName i) (gCons (gName j) gNil))) (dT [d, e]) (fun ρ => (ρ.set i (some d)).set j (some e)) [i, j] := fun x σ N H p s ρ en Q q => by
  obtain ⟨a, vs, rfl, ha, r⟩ := p
  cases r with
  | cons r1 r2 => cases r2 with
    | cons r2 r3 =>
      cases r3
      refine ⟨a, _, rfl, SqT.of (s a _ ha), rfl, _, _, rfl, _, _, rfl, rfl, q _ ((en.set r1).set r2) (fun k hk => ?_) (by rw [List.length_set, List.length_set])⟩
      have h1 : i ≠ k := fun z => hk (by simp [z])
      have h2 : j ≠ k := fun z => hk (by simp [z])
      rw [List.getElem?_set_ne h2, List.getElem?_set_ne h1]
theorem tg_tup3 {K : PySem.W.Frag} {d e f : Dn} {i j l : Nat} : Tgt (gTup K 3 (gCons (gName i) (gCons (gName j) (gCons (gName l) gNil)))) (dT [d, e, f]) (fun ρ => ((ρ.set i (some d)).set j (some e)).set l (some f)) [i, j, l] := fun x σ N H p s ρ en Q q => by
  obtain ⟨a, vs, rfl, ha, r⟩ := p
  cases r with
  | cons r1 r2 => cases r2 with
    | cons r2 r3 => cases r3 with
      | cons r3 r4 =>
        cases r4
        refine ⟨a, _, rfl, SqT.of (s a _ ha), rfl, _, _, rfl, _, _, rfl, _, _, rfl, rfl, q _ (((en.set r1).set r2).set r3) (fun k hk => ?_) (by rw [List.length_set, List.length_set, List.length_set])⟩
        have h1 : i ≠ k := fun z => hk (by simp [z])
        have h2 : j ≠ k := fun z => hk (by simp [z])
        have h3 : l ≠ k := fun z => hk (by simp [z])
        rw [List.getElem?_set_ne h3, List.getElem?_set_ne h2, List.getElem?_set_ne h1]
theorem wipe_at (σ : SSt) : ∀ (vs : List Nat) (i : Nat), (L2.wipe σ vs)[i]? = if i ∈ vs then σ[i]?.map (fun _ => none) else σ[i]?
  | [], i => by simp [L2.wipe]
  | v :: vs, i => by
    unfold L2.wipe
    by_cases h : v = i
    · subst h
      rw [if_pos List.mem_cons_self]
      by_cases hl : v < σ.length
      · rw [List.getElem?_set_self (by rw [L2.wipe_length]; exact hl), List.getElem?_eq_getElem hl]; rfl
      · rw [List.getElem?_eq_none (by rw [List.length_set, L2.wipe_length]; omega), List.getElem?_eq_none (by omega)]; rfl
    · rw [List.getElem?_set_ne h, wipe_at σ vs i]
      have : (i ∈ v :: vs) ↔ i ∈ vs := by
        rw [List.mem_cons]
        exact ⟨fun z => z.elim (fun z => absurd z.symm h) id, .inr⟩
      simp only [this]
theorem wipe_tg {σ σ' : SSt} {js vs : List Nat} (h : ∀ k, k ∉ js → σ'[k]? = σ[k]?) (hl : σ'.length = σ.length) (hs : ∀ j ∈ js, j ∈ vs) : L2.wipe σ' vs = L2.wipe σ vs := by
  refine List.ext_getElem? fun i => ?_
  rw [wipe_at, wipe_at]
  by_cases hi : i ∈ vs
  · rw [if_pos hi, if_pos hi]
    by_cases h2 : i < σ.length
    · rw [List.getElem?_eq_getElem h2, List.getElem?_eq_getElem (by omega)]; rfl
    · rw [List.getElem?_eq_none (by omega), List.getElem?_eq_none (by omega)]
  · rw [if_neg hi, if_neg hi]
    exact h i fun z => hi (hs i z)
theorem wipe_wipe (σ : SSt) (vs : List Nat) : L2.wipe (L2.wipe σ vs) vs = L2.wipe σ vs := by
  refine List.ext_getElem? fun i => ?_
  rw [wipe_at, wipe_at]
  by_cases hi : i ∈ vs
  · rw [if_pos hi, if_pos hi, Option.map_map]; rfl
  · rw [if_neg hi, if_neg hi]
theorem go_asgT {te : TE} {ρ : Ro} {o : Option Ow} {B : Bd} {z : TS} {g : TG} {d : Dn} {bd : Ro → Ro} {js : List Nat} (h : Ev te ρ d) (ht : Tgt g d bd js) (k : Go z (bd ρ) o B)
    (hk : okKs o js = true := by rfl) : Go (tSeq (tAsg te g) z) ρ o B :=
  fun M N0 H0 σ N H D s b => h σ N H s.e s.hk _ fun v N' H' x p => ht v σ N' H' p x.s ρ (s.e.mono x.n) _ fun σ' e a l => k M N0 H0 σ' N' H' D
    ⟨s.m.trans x.n, s.x.trans x, e, fun w q => let ⟨v, c1, c2⟩ := (s.step x).o w q; ⟨v, by rw [a _ (okKs_ne hk w q)]; exact c1, c2⟩⟩ b
/-- a, b = e, f -/
theorem go_par {ta : TA} {ρ : Ro} {o : Option Ow} {B : Bd} {z : TS} {i j : Nat} {d e : Dn} (h : EvA ta ρ [d, e]) (k : Go z ((ρ.set i (some d)).set j (some e)) o B)
    (hk : okK o i = true := by rfl) (hk2 : okK o j = true := by rfl) : Go (tSeq (tPar i j ta) z) ρ o B :=
  fun M N0 H0 σ N H D s b => h σ N H s.e s.hk _ fun vs N' H' x p => by
    cases p with
    | cons p1 p2 => cases p2 with
      | cons p2 p3 =>
        cases p3
        exact ⟨_, _, rfl, k M N0 H0 _ N' H' D (((s.step x).set p1 (okK_ne hk)).set p2 (okK_ne hk2)) b⟩
/-! ### walks -/
/-- it walks what ds tell -/
def Wi (wi : TI) (ρ : Ro) (ds : List Dn) : Prop := ∀ σ N H, En ρ σ N → Same N H → ∀ R : It → Hp → Prop, (∀ (J : It) (N' H' : Hp) (G : Hp → Prop) (Y : Nat → Hp → V → Hp → Prop), Nx N H N' H' → Walk J ds.length G Y →
  (∀ H2, Same N' H2 → G H2) → (∀ i d, ds[i]? = some d → ∀ N2 H2 x H3, Same N' N2 → Same N2 H2 → Y i H2 x H3 → ∃ N3, Nx N2 H2 N3 H3 ∧ d.p x N3) → R J H') → wi σ H R
section
variable {ρ : Ro} {K : PySem.W.Frag} {te : TE} {ta : TA} {ds es : List Dn}
theorem wi_list (h : Ev te ρ (dL ds)) : Wi (iList K te) ρ ds := fun σ N H e s R q => h σ N H e s _ fun v N' H' x p => by
  obtain ⟨a, vs, rfl, ha, r⟩ := p
  refine ⟨a, rfl, ⟨vs, SqL.of (x.s a _ ha)⟩, q _ N' H' _ _ x (r.len ▸ walk_list (xs := vs)) (fun H2 s2 => SqL.of (s2 a _ ha)) fun i d hd N2 H2 y H3 s2 s3 hy => ?_⟩
  obtain ⟨rfl, hy⟩ := hy
  obtain ⟨v, hv, p⟩ := r.at hd
  rw [hv] at hy
  cases hy
  exact ⟨N2, .refl s3, d.mono _ _ _ s2 p⟩
theorem wi_str {z : Str} (h : Ev te ρ (dS z)) : Wi (iStr te) ρ (z.cps.toList.map fun c => dS ⟨#[c]⟩) := fun σ N H e s R q => h σ N H e s _ fun v N' H' x p => by
  refine ⟨z, p, q _ N' H' _ _ x (by rw [List.length_map, Array.length_toList]; exact walk_str) (fun _ _ => trivial) fun i d hd N2 H2 y H3 s2 s3 hy => ?_⟩
  obtain ⟨rfl, c, hc, rfl⟩ := hy
  rw [List.getElem?_map, Array.getElem?_toList, hc] at hd
  cases hd
  exact ⟨N2, .refl s3, rfl⟩
theorem wi_range1 {n : Int} (h : EvA ta ρ [dI n]) (h1 : n < 2 ^ 62) (h0 : -(2 ^ 62) ≤ n) : Wi (iRng1 ta) ρ ((List.range n.toNat).map fun k : Nat => dI (k : Int)) := fun σ N H e s R q => h σ N H e s _ fun vs N' H' x p => by
  cases p with
  | cons p1 p2 =>
    cases p2
    cases (show _ = V.int n from p1)
    refine ⟨n, rfl, h0, h1, q _ N' H' _ _ x (by rw [List.length_map, List.length_range]; exact walk_range) (fun _ _ => trivial) fun i d hd N2 H2 y H3 s2 s3 hy => ?_⟩
    obtain ⟨rfl, rfl⟩ := hy
    rw [List.getElem?_map] at hd
    cases hr : (List.range n.toNat)[i]? with
    | none => rw [hr] at hd; cases hd
    | some j =>
      rw [hr] at hd
      cases hd
      have : j = i := by
        obtain ⟨a, b⟩ := List.getElem?_eq_some_iff.mp hr
        simpa using b.symm
      subst this
      exact ⟨N2, .refl s3, (show V.int (0 + (j : Int)) = V.int j by rw [Int.zero_add])⟩
theorem wi_range2 {m n : Int} (h : EvA ta ρ [dI m, dI n]) (h1 : -(2 ^ 62) ≤ m ∧ m < 2 ^ 62 ∧ -(2 ^ 62) ≤ n ∧ n < 2 ^ 62) : Wi (iRng2 ta) ρ ((List.range (n - m).toNat).map fun k : Nat => dI (m + (k : Int))) := fun σ N H e s R q => h σ N H e s _ fun vs N' H' x p => by
  cases p with
  | cons p1 p2 => cases p2 with
    | cons p2 p3 =>
      cases p3
      cases (show _ = V.int m from p1)
      cases (show _ = V.int n from p2)
      refine ⟨m, n, rfl, h1, q _ N' H' _ _ x (by rw [List.length_map, List.length_range]; exact walk_range) (fun _ _ => trivial) fun i d hd N2 H2 y H3 s2 s3 hy => ?_⟩
      obtain ⟨rfl, rfl⟩ := hy
      rw [List.getElem?_map] at hd
      cases hr : (List.range (n - m).toNat)[i]? with
      | none => rw [hr] at hd; cases hd
      | some j =>
        rw [hr] at hd
        cases hd
        have : j = i := by
          obtain ⟨a, b⟩ := List.getElem?_eq_some_iff.mp hr
          simpa using b.symm
        subst this
        exact ⟨N2, .refl s3, rfl⟩
/-- a new pair -/
theorem pair_new {N2 H2 : Hp} {T : Addr} {x y : V} {d e : Dn} (s : Same N2 H2) (hT : H2 T = none) (hx : d.p x N2) (hy : e.p y N2) : ∃ N3, Nx N2 H2 N3 (upd H2 T (.tup [x, y])) ∧ (dT [d, e]).p (.ref T) N3 :=
  ⟨_, Nx.new s hT, T, _, rfl, upd_same, Rep.mono (Nx.new s hT).n (.cons hx (Rep.one hy))⟩
theorem wi_enum {α : Type} {xs : List α} {δ : α → Dn} (h : EvA ta ρ [dL (xs.map δ)]) : Wi (iEnum K ta) ρ (xs.zipIdx.map fun p => dT [dI (p.2 : Nat), δ p.1]) := fun σ N H e s R q => h σ N H e s _ fun vs N' H' x p => by
  cases p with
  | cons p1 p2 =>
    cases p2
    obtain ⟨a, vs, rfl, ha, r⟩ := p1
    have hl : (xs.zipIdx.map fun p => dT [dI (p.2 : Nat), δ p.1]).length = vs.length := by rw [List.length_map, List.length_zipIdx, ← r.len, List.length_map]
    refine ⟨a, vs, rfl, SqL.of (x.s a _ ha), q _ N' H' _ _ x (hl ▸ walk_enum (K := K) (a := a) (xs := vs)) (fun H2 s2 => SqL.of (s2 a _ ha)) fun i d hd N2 H2 y H3 s2 s3 hy => ?_⟩
    obtain ⟨T, u, w, rfl, hT, rfl, hu, hw⟩ := hy
    cases hu
    rw [List.getElem?_map, List.getElem?_zipIdx] at hd
    cases hx : xs[i]? with
    | none => rw [hx] at hd; cases hd
    | some z =>
      rw [hx] at hd
      cases hd
      obtain ⟨v, hv, p⟩ := r.at (i := i) (d := δ z) (by rw [List.getElem?_map, hx]; rfl)
      have hw : vs[i]? = some w := hw
      rw [hv] at hw
      cases hw
      exact pair_new s3 hT (d := dI ((0 + i : Nat) : Int)) (by rw [Nat.zero_add]; rfl) ((δ z).mono _ _ _ s2 p)
theorem wi_zip {α β : Type} {xs : List α} {ys : List β} {δ : α → Dn} {ε : β → Dn} (h : EvA ta ρ [dL (xs.map δ), dL (ys.map ε)]) : Wi (iZip K ta) ρ ((xs.zip ys).map fun p => dT [δ p.1, ε p.2]) := fun σ N H e s R q => h σ N H e s _ fun vs N' H' x p => by
  cases p with
  | cons p1 p2 => cases p2 with
    | cons p2 p3 =>
      cases p3
      obtain ⟨a, vs, rfl, ha, r⟩ := p1
      obtain ⟨b, ws, rfl, hb, r'⟩ := p2
      have l1 := r.len
      have l2 := r'.len
      rw [List.length_map] at l1 l2
      refine ⟨a, b, vs, ws, rfl, SqL.of (x.s a _ ha), SqL.of (x.s b _ hb), q _ N' H' _ _ x (walk_zip (K := K) (a := a) (b := b) (xs := vs) (ys := ws) (by rw [List.length_map, List.length_zip, l1, l2])) (fun H2 s2 => ⟨SqL.of (s2 a _ ha), SqL.of (s2 b _ hb)⟩) fun i d hd N2 H2 y H3 s2 s3 hy => ?_⟩
      obtain ⟨T, u, w, rfl, hT, rfl, hu, hw⟩ := hy
      rw [List.getElem?_map] at hd
      cases hz : (xs.zip ys)[i]? with
      | none => rw [hz] at hd; cases hd
      | some q =>
        rw [hz] at hd
        cases hd
        obtain ⟨hx, hy⟩ := List.getElem?_zip_eq_some.mp hz
        obtain ⟨v, hv, p⟩ := r.at (i := i) (d := δ q.1) (by rw [List.getElem?_map, hx]; rfl)
        obtain ⟨v', hv', p'⟩ := r'.at (i := i) (d := ε q.2) (by rw [List.getElem?_map, hy]; rfl)
        have hu : vs[i]? = some u := hu
        have hw : ws[i]? = some w := hw
        rw [hv] at hu
        rw [hv'] at hw
        cases hu
        cases hw
        exact pair_new s3 hT ((δ q.1).mono _ _ _ s2 p) ((ε q.2).mono _ _ _ s2 p')
end
/-! ### for -/
theorem take_split {α : Type} {xs : List α} {i : Nat} {b : α} (h : xs[i]? = some b) : xs = xs.take i ++ b :: xs.drop (i + 1) ∧ xs.take (i + 1) = xs.take i ++ [b] := by
  obtain ⟨hi, e⟩ := List.getElem?_eq_some_iff.mp h
  refine ⟨?_, ?_⟩
  · rw [← e, List.getElem_cons_drop, List.take_append_drop]
  · rw [List.take_add_one, h]; rfl
section
variable {β : Type} {ρ : Ro} {o : Option Ow} {B : Bd} {z tb : TS} {wi : TI} {g : TG}
/-- S: the slots behind the part gone, O: one's own -/
theorem go_for (xs : List β) (δ : β → Dn) (bd : β → Ro → Ro) (js : List Nat) (S : List β → Ro) (O : List β → Option Ow) (hw : Wi wi ρ (xs.map δ)) (ht : ∀ b, Tgt g (δ b) (bd b) js) (h0 : Le ρ (S [])) (ho : o = O [])
    (hs : ∀ pre b post, xs = pre ++ b :: post → Go tb (bd b (S pre)) (O pre) (Bnx (S (pre ++ [b])) (O (pre ++ [b])))) (hz : Go z (S xs) (O xs) B)
    (hk : ∀ l w, O l = some w → w.k ∉ js) : Go (tSeq (tFor wi g tb) z) ρ o B := fun M N0 H0 σ N H D s bb => by
  refine hw σ N H s.e s.hk _ fun J N' H' G Y x wk hG hY => ?_
  have e0 : ∀ i σ2 H2, i ≤ (xs.map δ).length → (∃ N2, Same N' N2 ∧ Sx M N0 H0 (S (xs.take i)) (O (xs.take i)) σ2 N2 H2) → G H2 := fun i σ2 H2 _ ⟨N2, a, b⟩ => hG H2 (a.trans b.hk)
  refine for_it wk (fun i σ2 H2 => ∃ N2, Same N' N2 ∧ Sx M N0 H0 (S (xs.take i)) (O (xs.take i)) σ2 N2 H2) ?_ e0 ?_ ?_
  · exact ⟨N', Same.refl _, by rw [List.take_zero, ← ho]; exact (s.step x).le h0⟩
  · rintro i v σ2 H2 H3 hi ⟨N2, a, b⟩ hy
    rw [List.length_map] at hi
    have hx : xs[i]? = some xs[i] := List.getElem?_eq_getElem hi
    obtain ⟨N3, x3, p3⟩ := hY i (δ xs[i]) (by rw [List.getElem?_map, hx]; rfl) N2 H2 v H3 a b.hk hy
    obtain ⟨q1, q2⟩ := take_split hx
    have b3 := b.step x3
    refine ht xs[i] v σ2 N3 H3 p3 x3.s _ b3.e _ fun σ' e hk' hl => ?_
    refine hs _ _ _ q1 N3 N0 H0 σ' N3 H3 _ ⟨Same.refl _, b3.x, e, fun w q => ?_⟩ fun σ4 N4 H4 s4 => ?_
    · obtain ⟨v, c1, c2⟩ := b3.o w q
      exact ⟨v, by rw [hk' _ (hk _ w q)]; exact c1, c2⟩
    · rw [q2]
      exact ⟨N4, (a.trans x3.n).trans s4.m, ⟨b3.m.trans s4.m, s4.x, s4.e, s4.o⟩⟩
  · rintro σ2 H2 ⟨N2, a, b⟩
    rw [List.length_map, List.take_length] at b
    exact hz M N0 H0 σ2 N2 H2 D b bb
/-- while, by a state of one's own -/
theorem go_while {ι : Type} {c : TT} (S : ι → Ro) (P : ι → Prop) (μ : ι → Nat) (s0 : ι) (h0 : Le ρ (S s0)) (p0 : P s0)
    (h : ∀ s, P s → ∃ b, EvT c (S s) b ∧ (b = true → ∃ s', P s' ∧ μ s' < μ s ∧ Go tb (S s) o (Bnx (S s') o)) ∧ (b = false → Go z (S s) o B)) : Go (tSeq (tWhile c tb) z) ρ o B := fun M N0 H0 σ N H D s bb => by
  refine ⟨fun m σ2 H2 => ∃ i N2, μ i = m ∧ P i ∧ Sx M N0 H0 (S i) o σ2 N2 H2, ⟨_, s0, N, rfl, p0, s.le h0⟩, ?_⟩
  rintro m σ2 H2 ⟨i, N2, rfl, p, s2⟩
  obtain ⟨b, ht, h1, h2⟩ := h i p
  refine ht σ2 N2 H2 s2.e s2.hk _ fun N3 H3 x3 => ?_
  have s3 := s2.step x3
  cases b with
  | true =>
    obtain ⟨i', p', l, hb⟩ := h1 rfl
    refine (if_pos rfl).mpr ⟨_, fun _ _ q => q, hb M N0 H0 σ2 N3 H3 _ s3 fun σ4 N4 H4 s4 => ⟨μ i', l, i', N4, rfl, p', s4⟩⟩
  | false => exact (if_neg Bool.false_ne_true).mpr (h2 rfl M N0 H0 σ2 N3 H3 D s3 bb)
/-! ### one of several -/
/-- one of those that P tells -/
def dEx {α : Type} (P : α → Prop) (D : α → Dn) : Dn := ⟨fun v N => ∃ x, P x ∧ (D x).p v N, fun v N N' s ⟨x, h, p⟩ => ⟨x, h, (D x).mono v N N' s p⟩⟩
theorem go_ex {α : Type} {P : α → Prop} {D : α → Dn} {i : Nat} (hi : ρ[i]? = some (some (dEx P D))) (h : ∀ x, P x → Go tb (ρ.set i (some (D x))) o B) : Go tb ρ o B := fun M N0 H0 σ N H D' s b => by
  obtain ⟨v, hv, x, hx, p⟩ := s.e.all i _ hi
  have q := s.e.set (i := i) p
  have e1 : σ.set i (some v) = σ := by
    refine List.ext_getElem? fun j => ?_
    by_cases hj : i = j
    · subst hj
      rw [hv, List.getElem?_set_self (List.getElem?_eq_some_iff.mp hv).1]
    · rw [List.getElem?_set_ne hj]
  rw [e1] at q
  exact h x hx M N0 H0 σ N H D' ⟨s.m, s.x, q, s.o⟩ b
theorem Ev.ex {α : Type} {P : α → Prop} {D : α → Dn} {te : TE} {x : α} (hx : P x) (h : Ev te ρ (D x)) : Ev te ρ (dEx P D) := fun σ N H e s Q q => h σ N H e s Q fun v N' H' y p => q v N' H' y ⟨x, hx, p⟩
/-! ### comprehensions -/
theorem et_yes {ρ : Ro} : EvT tYes ρ true := fun σ N H e s Q q => q N H (.refl s)
theorem en_lc {tt : TT} {te : TE} {vs : List Nat} (xs : List β) (δ : β → Dn) (bd : β → Ro → Ro) (js : List Nat) (f : β → Bool) (gd : β → Dn) (hw : Wi wi ρ (xs.map δ)) (ht : ∀ b, Tgt g (δ b) (bd b) js)
    (hf : ∀ b ∈ xs, EvT tt (bd b (wipeR ρ vs)) (f b)) (he : ∀ b ∈ xs, f b = true → Ev te (bd b (wipeR ρ vs)) (gd b)) (hl : xs.length ≤ 1000000) (hs : ∀ j ∈ js, j ∈ vs) : EvN (tLc wi g tt te vs) ρ ((xs.filter f).map gd) := fun σ N H e s Q q => by
  refine hw σ N H e s _ fun J N' H' G Y x wk hG hY D hD => ?_
  have nD : N' D = none := x.s.free hD
  refine lc_it wk (fun i H2 => ∃ N2 acc, Nx N' H' N2 H2 ∧ N2 D = none ∧ H2 D = some (.lst acc) ∧ Rep N2 (((xs.take i).filter f).map gd) acc) ⟨N', [], Nx.own x.s hD, nD, upd_same, by rw [List.take_zero]; exact .nil⟩
    (fun i H2 _ ⟨N2, acc, y, _⟩ => hG H2 (y.n.trans y.s)) ?_ ?_
  · rintro i v H2 H3 hi ⟨N2, acc, y, n2, h2, r2⟩ hy
    rw [List.length_map] at hi
    have hx : xs[i]? = some xs[i] := List.getElem?_eq_getElem hi
    obtain ⟨N3, x3, p3⟩ := hY i (δ xs[i]) (by rw [List.getElem?_map, hx]; rfl) N2 H2 v H3 y.n y.s hy
    obtain ⟨q1, q2⟩ := take_split hx
    have hm : xs[i] ∈ xs := List.getElem_mem hi
    have fl : (((xs.take i).filter f).map gd).length ≤ 999999 := by
      have h1 := List.length_filter_le f (xs.take i)
      have h2 : (xs.take i).length ≤ i := List.length_take_le ..
      rw [List.length_map]
      omega
    refine ht xs[i] v _ N3 H3 p3 x3.s _ ((e.mono (x.n.trans (y.n.trans x3.n))).wipe vs) _ fun σ' e' hk' hl' => ⟨?_, ?_⟩
    · rw [wipe_tg hk' hl' hs, wipe_wipe]
    · refine hf _ hm σ' N3 H3 e' x3.s _ fun N4 H4 x4 => ?_
      have y4 := (y.trans x3).trans x4
      have n4 : N4 D = none := (x3.trans x4).f D n2 (by rw [h2]; simp)
      have h4 : H4 D = some (.lst acc) := (x3.trans x4).h D _ h2
      cases hf2 : f xs[i] with
      | true =>
        refine (if_pos rfl).mpr (he _ hm hf2 σ' N4 H4 (e'.mono x4.n) x4.s _ fun w N5 H5 x5 p5 => ?_)
        have n5 : N5 D = none := x5.f D n4 (by rw [h4]; simp)
        have y5 := y4.trans x5
        refine ⟨acc, x5.h D _ h4, by rw [← r2.len, sizeLine_eq]; omega, N5, _, ⟨y5.n, fun b u z => ?_, fun b u z => ?_, y5.f⟩, n5, upd_same, ?_⟩
        · rw [upd_ne (ne_of_none z n5)]; exact y5.s b u z
        · rw [upd_ne (ne_of_none z hD)]; exact y5.h b u z
        · rw [q2, List.filter_append, List.map_append, List.filter_cons_of_pos hf2]
          exact (r2.mono ((x3.trans x4).trans x5).n).snoc p5
      | false =>
        refine (if_neg Bool.false_ne_true).mpr ⟨N4, acc, y4, n4, h4, ?_⟩
        rw [q2, List.filter_append, List.filter_cons_of_neg (by rw [hf2]; decide), List.filter_nil, List.append_nil]
        exact r2.mono (x3.trans x4).n
  · rintro H2 ⟨N2, acc, y, n2, h2, r2⟩
    rw [List.length_map, List.take_length] at r2
    exact q D acc N2 H2 (x.trans y) (x.h.free hD) n2 h2 r2
theorem en_lc0 {te : TE} {vs : List Nat} (xs : List β) (δ : β → Dn) (bd : β → Ro → Ro) (js : List Nat) (gd : β → Dn) (hw : Wi wi ρ (xs.map δ)) (ht : ∀ b, Tgt g (δ b) (bd b) js)
    (he : ∀ b ∈ xs, Ev te (bd b (wipeR ρ vs)) (gd b)) (hl : xs.length ≤ 1000000) (hs : ∀ j ∈ js, j ∈ vs) : EvN (tLc wi g tYes te vs) ρ (xs.map gd) := by
  have h := en_lc xs δ bd js (fun _ => true) gd hw ht (fun _ _ => et_yes) (fun b hb _ => he b hb) hl hs
  rwa [List.filter_eq_self.mpr (fun _ _ => rfl)] at h
end
end Mu
/-! Operations over denotations. -/
namespace Mu
open PySem PySem.Spec PyProof.Rows L2
/-! ### ints -/
theorem rv_add {i j : Int} : RvR (rI0 fun i j => .int (i + j)) (dI i) (dI j) (dI (i + j)) := rv_I0 fun _ => rfl
theorem rv_sub {i j : Int} : RvR (rI0 fun i j => .int (i - j)) (dI i) (dI j) (dI (i - j)) := rv_I0 fun _ => rfl
theorem rv_mul {i j : Int} (h : CMulW i j) : RvR (rI CMulW fun i j => .int (i * j)) (dI i) (dI j) (dI (i * j)) := rv_I h fun _ => rfl
theorem rv_fdiv {i j : Int} (h : CDivW i j) : RvR (rI CDivW fun i j => .int (i / j)) (dI i) (dI j) (dI (i / j)) := rv_I h fun _ => rfl
theorem rv_mod {i j : Int} (h : 0 < j) : RvR (rI (fun _ j => 0 < j) fun i j => .int (i % j)) (dI i) (dI j) (dI (i % j)) := rv_I h fun _ => rfl
theorem rv_lt {i j : Int} : RvR (rI0 fun i j => .bl (decide (i < j))) (dI i) (dI j) (dB (decide (i < j))) := rv_I0 fun _ => rfl
theorem rv_le {i j : Int} : RvR (rI0 fun i j => .bl (decide (i ≤ j))) (dI i) (dI j) (dB (decide (i ≤ j))) := rv_I0 fun _ => rfl
theorem rv_gt {i j : Int} : RvR (rI0 fun i j => .bl (decide (j < i))) (dI i) (dI j) (dB (decide (j < i))) := rv_I0 fun _ => rfl
theorem rv_ge {i j : Int} : RvR (rI0 fun i j => .bl (decide (j ≤ i))) (dI i) (dI j) (dB (decide (j ≤ i))) := rv_I0 fun _ => rfl
theorem ev_neg {ρ : Ro} {te : TE} {i : Int} (h : Ev te ρ (dI i)) : Ev (tUn (rU fun i => .int (-i)) te) ρ (dI (-i)) := fun σ N H e s Q q => h σ N H e s _ fun v N1 H1 x p => ⟨i, p, q _ N1 H1 x rfl⟩
theorem rv_eqI {i j : Int} : RvR rEq (dI i) (dI j) (dB (decide (i = j))) := fun x y N H s hx hy Q q => by
  cases (show x = V.int i from hx)
  cases (show y = V.int j from hy)
  refine ⟨rfl, ?_⟩
  rw [show decide (V.int i = V.int j) = decide (i = j) by simp]
  exact q _ N H (.refl s) rfl
theorem rv_neI {i j : Int} : RvR rNe (dI i) (dI j) (dB (!decide (i = j))) := fun x y N H s hx hy Q q => by
  cases (show x = V.int i from hx)
  cases (show y = V.int j from hy)
  refine ⟨rfl, ?_⟩
  rw [show decide (V.int i = V.int j) = decide (i = j) by simp]
  exact q _ N H (.refl s) rfl
theorem rv_eqS {i j : Str} : RvR rEq (dS i) (dS j) (dB (decide (i = j))) := fun x y N H s hx hy Q q => by
  cases (show x = V.str i from hx)
  cases (show y = V.str j from hy)
  refine ⟨rfl, ?_⟩
  rw [show decide (V.str i = V.str j) = decide (i = j) by simp]
  exact q _ N H (.refl s) rfl
theorem rv_eqB {i j : Bool} : RvR rEq (dB i) (dB j) (dB (decide (i = j))) := fun x y N H s hx hy Q q => by
  cases (show x = V.bl i from hx)
  cases (show y = V.bl j from hy)
  refine ⟨rfl, ?_⟩
  rw [show decide (V.bl i = V.bl j) = decide (i = j) by simp]
  exact q _ N H (.refl s) rfl
/-- is None, of what is none or is not -/
def rIsNon : R2 := fun x y H Q => y = .non ∧ Q (.bl (decide (x = .non))) H
theorem op_isNon {X : Cx} : OpR X (compareOp .Is) rIsNon := op_isN
theorem rv_isN : RvR rIsNon dN dN (dB true) := fun x y N H s hx hy Q q => ⟨hy, by
  cases (show x = V.non from hx)
  exact q _ N H (.refl s) rfl⟩
theorem rv_isNL {ds : List Dn} : RvR rIsNon (dL ds) dN (dB false) := fun x y N H s hx hy Q q => ⟨hy, by
  obtain ⟨a, vs, rfl, _⟩ := hx
  rw [decide_eq_false (fun z => nomatch z)]
  exact q _ N H (.refl s) rfl⟩
theorem rv_isBl {a b : Bool} : RvR rIsB (dB a) (dB b) (dB (decide (a = b))) := fun x y N H s hx hy Q q => ⟨a, b, hx, hy, q _ N H (.refl s) rfl⟩
theorem rv_notBl {a b : Bool} : RvR rNotB (dB a) (dB b) (dB (!decide (a = b))) := fun x y N H s hx hy Q q => ⟨a, b, hx, hy, q _ N H (.refl s) rfl⟩
theorem ev_chain {ρ : Ro} {r r' : R2} {ta tb tc : TE} {d e f : Dn} {a b : Bool} (ha : Ev ta ρ d) (hb : Ev tb ρ e) (h1 : RvR r d e (dB a)) (hc : Ev tc ρ f) (h2 : RvR r' e f (dB b)) : Ev (tChain r r' ta tb tc) ρ (dB (a && b)) := fun σ N H en s Q q =>
  ha σ N H en s _ fun x N1 H1 x1 p1 => hb σ N1 H1 (en.mono x1.n) x1.s _ fun y N2 H2 x2 p2 => h1 x y N2 H2 x2.s (d.mono _ _ _ x2.n p1) p2 _ fun v N3 H3 x3 p3 => ⟨a, p3, by
    cases a with
    | true => exact (if_pos rfl).mpr (hc σ N3 H3 (en.mono ((x1.trans x2).trans x3).n) x3.s _ fun w N4 H4 x4 p4 => h2 y w N4 H4 x4.s (e.mono _ _ _ (x3.trans x4).n p2) p4 Q fun v N5 H5 x5 p5 => q v N5 H5 (((x1.trans x2).trans x3).trans (x4.trans x5)) p5)
    | false => exact (if_neg Bool.false_ne_true).mpr (q _ N3 H3 ((x1.trans x2).trans x3) rfl)⟩
/-! ### reps of lists of texts, ints, truths -/
theorem rep_str {N : Hp} : ∀ {xs : List Str} {vs : List V}, Rep N (xs.map dS) vs → vs = xs.map V.str
  | [], _, .nil => rfl
  | x :: xs, _, .cons h t => by rw [rep_str t]; rw [show _ = V.str x from h]; rfl
theorem rep_int {N : Hp} : ∀ {xs : List Int} {vs : List V}, Rep N (xs.map dI) vs → vs = xs.map V.int
  | [], _, .nil => rfl
  | x :: xs, _, .cons h t => by rw [rep_int t]; rw [show _ = V.int x from h]; rfl
theorem rep_bl {N : Hp} : ∀ {xs : List Bool} {vs : List V}, Rep N (xs.map dB) vs → vs = xs.map V.bl
  | [], _, .nil => rfl
  | x :: xs, _, .cons h t => by rw [rep_bl t]; rw [show _ = V.bl x from h]; rfl
theorem rep_strs {N : Hp} : ∀ {xs : List Str}, Rep N (xs.map dS) (xs.map V.str)
  | [] => .nil
  | _ :: _ => .cons rfl rep_strs
theorem rep_ints {N : Hp} : ∀ {xs : List Int}, Rep N (xs.map dI) (xs.map V.int)
  | [] => .nil
  | _ :: _ => .cons rfl rep_ints
/-! ### in -/
theorem inV_str {x : Str} : ∀ xs : List Str, inV (.str x) (xs.map V.str) = decide (x ∈ xs)
  | [] => by simp [inV]
  | y :: xs => by
    have ih := inV_str (x := x) xs
    unfold inV at ih ⊢
    rw [List.map_cons, List.any_cons, ih]
    by_cases h : y = x
    · subst h
      simp [eqV]
    · have h2 : (eqV (.str y) (.str x)) = false := by simp [eqV, h]
      rw [h2]
      have : (x ∈ y :: xs) ↔ x ∈ xs := by
        rw [List.mem_cons]
        exact ⟨fun z => z.elim (fun z => absurd z.symm h) id, .inr⟩
      simp only [this, Bool.false_or]
theorem flat_str (xs : List Str) : (xs.map V.str).all flatV = true := by
  rw [List.all_map]
  exact List.all_eq_true.mpr fun _ _ => rfl
theorem rv_in {K : PySem.W.Frag} {x : Str} {xs : List Str} : RvR (rIn K false) (dS x) (dL (xs.map dS)) (dB (decide (x ∈ xs))) := fun u v N H s hx hy Q q => by
  cases (show u = V.str x from hx)
  obtain ⟨a, vs, rfl, h, r⟩ := hy
  rw [rep_str r] at h
  refine ⟨a, _, rfl, .inl (SqL.of (s a _ h)), rfl, flat_str xs, ?_⟩
  rw [inV_str]
  exact q _ N H (.refl s) rfl
theorem rv_nin {K : PySem.W.Frag} {x : Str} {xs : List Str} : RvR (rIn K true) (dS x) (dL (xs.map dS)) (dB (!decide (x ∈ xs))) := fun u v N H s hx hy Q q => by
  cases (show u = V.str x from hx)
  obtain ⟨a, vs, rfl, h, r⟩ := hy
  rw [rep_str r] at h
  refine ⟨a, _, rfl, .inl (SqL.of (s a _ h)), rfl, flat_str xs, ?_⟩
  rw [inV_str]
  exact q _ N H (.refl s) rfl
theorem rv_inT {K : PySem.W.Frag} {x : Str} {xs : List Str} : RvR (rIn K false) (dS x) (dT (xs.map dS)) (dB (decide (x ∈ xs))) := fun u v N H s hx hy Q q => by
  cases (show u = V.str x from hx)
  obtain ⟨a, vs, rfl, h, r⟩ := hy
  rw [rep_str r] at h
  refine ⟨a, _, rfl, .inr (SqT.of (s a _ h)), rfl, flat_str xs, ?_⟩
  rw [inV_str]
  exact q _ N H (.refl s) rfl
/-- not in a written list of the module's -/
theorem rv_ninK {K : PySem.W.Frag} {x : Str} {xs : List Str} {a : Addr} (hk : ∀ H, SqL K H a (xs.map V.str)) : RvR (rIn K true) (dS x) (dV (.ref a)) (dB (!decide (x ∈ xs))) := fun u v N H s hx hy Q q => by
  cases (show u = V.str x from hx)
  cases (show v = V.ref a from hy)
  refine ⟨a, _, rfl, .inl (hk H), rfl, flat_str xs, ?_⟩
  rw [inV_str]
  exact q _ N H (.refl s) rfl
theorem rv_inS {c : Nat} {z : Str} : RvR rInS (dS ⟨#[c]⟩) (dS z) (dB (decide (c ∈ z.cps.toList))) := fun u v N H s hx hy Q q => ⟨c, z, hx, hy, q _ N H (.refl s) rfl⟩
/-! ### items, slices -/
theorem atI_rep {N : Hp} {ds : List Dn} {vs : List V} {i : Int} {d : Dn} (r : Rep N ds vs) (h : atI ds i = some d) : ∃ v, atI vs i = some v ∧ d.p v N := by
  unfold atI at h ⊢
  rw [← r.len]
  cases hj : ixN ds.length i with
  | none => rw [hj] at h; cases h
  | some j =>
    rw [hj] at h
    exact r.at h
theorem rv_ixL {K : PySem.W.Frag} {ds : List Dn} {i : Int} {d : Dn} (h : atI ds i = some d) : RvR (rIxL K) (dL ds) (dI i) d := fun u v N H s hx hy Q q => by
  obtain ⟨a, vs, rfl, ha, r⟩ := hx
  obtain ⟨w, h1, h2⟩ := atI_rep r h
  exact ⟨a, vs, i, w, rfl, hy, SqL.of (s a _ ha), h1, q w N H (.refl s) h2⟩
theorem rv_ixT {K : PySem.W.Frag} {ds : List Dn} {i : Int} {d : Dn} (h : atI ds i = some d) : RvR (rIxT K) (dT ds) (dI i) d := fun u v N H s hx hy Q q => by
  obtain ⟨a, vs, rfl, ha, r⟩ := hx
  obtain ⟨w, h1, h2⟩ := atI_rep r h
  exact ⟨a, vs, i, w, rfl, hy, SqT.of (s a _ ha), h1, q w N H (.refl s) h2⟩
theorem atI_map {α β : Type} {f : α → β} {xs : List α} {i : Int} {x : α} (h : atI xs i = some x) : atI (xs.map f) i = some (f x) := by
  unfold atI at h ⊢
  rw [List.length_map]
  cases hj : ixN xs.length i with
  | none => rw [hj] at h; cases h
  | some j =>
    rw [hj] at h
    show (xs.map f)[j]? = some (f x)
    rw [List.getElem?_map, show xs[j]? = some x from h]
    rfl
/-- the items of a slice -/
def cutD {α : Type} (xs : List α) (lo hi : Option Int) : List α := (xs.drop (HT.sIx xs.length 0 lo)).take (HT.sIx xs.length xs.length hi - HT.sIx xs.length 0 lo)
theorem cutD_map {α β : Type} (f : α → β) (xs : List α) (lo hi : Option Int) : cutD (xs.map f) lo hi = (cutD xs lo hi).map f := by
  unfold cutD
  rw [List.length_map, List.map_take, List.map_drop]
theorem cut_rep {N : Hp} {ds : List Dn} {vs : List V} {lo hi : Option Int} (r : Rep N ds vs) : Rep N (cutD ds lo hi) (cutV vs lo hi) := by
  unfold cutD cutV
  rw [← r.len]
  exact (r.drop _).take _
theorem sIx_all {n d : Nat} {i : Int} (h0 : 0 ≤ i) : HT.sIx n d (some i) = min i.toNat n := by
  show (if i < 0 then (i + (n : Int)).toNat else min i.toNat n) = _
  rw [if_neg (by omega)]
theorem cut_from {α : Type} {xs : List α} {i : Int} (h0 : 0 ≤ i) : cutD xs (some i) none = xs.drop i.toNat := by
  unfold cutD
  rw [sIx_all h0]
  show (xs.drop (min i.toNat xs.length)).take (xs.length - min i.toNat xs.length) = _
  by_cases h : i.toNat ≤ xs.length
  · rw [Nat.min_eq_left h, List.take_of_length_le (by rw [List.length_drop]; omega)]
  · rw [Nat.min_eq_right (by omega), List.drop_eq_nil_of_le (Nat.le_refl _), List.drop_eq_nil_of_le (by omega), List.take_nil]
theorem cut_to {α : Type} {xs : List α} {i : Int} (h0 : 0 ≤ i) : cutD xs none (some i) = xs.take i.toNat := by
  unfold cutD
  rw [sIx_all h0]
  show (xs.drop 0).take (min i.toNat xs.length - 0) = _
  rw [List.drop_zero, Nat.sub_zero]
  by_cases h : i.toNat ≤ xs.length
  · rw [Nat.min_eq_left h]
  · rw [Nat.min_eq_right (by omega), List.take_of_length_le (Nat.le_refl _), List.take_of_length_le (by omega)]
section
variable {ρ : Ro} {K : PySem.W.Frag} {te : TE} {tl th : TO} {ds : List Dn} {lo hi : Option Int}
theorem en_slL (h : Ev te ρ (dL ds)) (h1 : EvO tl ρ lo) (h2 : EvO th ρ hi) : EvN (tSl (rSlL K) te tl th) ρ (cutD ds lo hi) := fun σ N H e s Q q =>
  h σ N H e s _ fun v N1 H1 x1 p => h1 σ N1 H1 (e.mono x1.n) x1.s _ fun N2 H2 x2 => h2 σ N2 H2 (e.mono (x1.trans x2).n) x2.s _ fun N3 H3 x3 => by
    obtain ⟨a, vs, rfl, ha, r⟩ := p
    have x := (x1.trans x2).trans x3
    exact ⟨a, vs, rfl, SqL.of ((x2.trans x3).h a _ (x1.s a _ ha)), fun p hp => q p _ N3 _ (x.trans (.own x3.s hp)) (x.h.free hp) (x3.s.free hp) upd_same (cut_rep (r.mono (x2.trans x3).n))⟩
theorem ev_slT (h : Ev te ρ (dT ds)) (h1 : EvO tl ρ lo) (h2 : EvO th ρ hi) (hw : ¬ (HT.sIx ds.length 0 lo = 0 ∧ HT.sIx ds.length ds.length hi = ds.length)) : Ev (tSl (rSlT K) te tl th) ρ (dT (cutD ds lo hi)) := fun σ N H e s Q q =>
  h σ N H e s _ fun v N1 H1 x1 p => h1 σ N1 H1 (e.mono x1.n) x1.s _ fun N2 H2 x2 => h2 σ N2 H2 (e.mono (x1.trans x2).n) x2.s _ fun N3 H3 x3 => by
    obtain ⟨a, vs, rfl, ha, r⟩ := p
    have x := (x1.trans x2).trans x3
    refine ⟨a, vs, rfl, SqT.of ((x2.trans x3).h a _ (x1.s a _ ha)), by rw [← r.len]; exact hw, fun p hp => q _ _ _ (x.trans (.new x3.s hp)) ⟨p, _, rfl, upd_same, (cut_rep (r.mono (x2.trans x3).n)).mono (Nx.new x3.s hp).n⟩⟩
end
/-! ### calls of built-ins -/
def rLenK (K : PySem.W.Frag) : List V → Hp → VK → Prop := fun xs H Q => ∃ p ys, xs = [.ref p] ∧ (SqL K H p ys ∨ SqT K H p ys) ∧ Q (.int ys.length) H
def rLstK (K : PySem.W.Frag) : List V → Hp → VK → Prop := fun xs H Q => ∃ p ys, xs = [.ref p] ∧ (SqL K H p ys ∨ SqT K H p ys) ∧ ∀ l, H l = none → Q (.ref l) (upd H l (.lst ys))
def rTupK (K : PySem.W.Frag) : List V → Hp → VK → Prop := fun xs H Q => ∃ p ys, xs = [.ref p] ∧ ((SqL K H p ys ∧ ∀ l, H l = none → Q (.ref l) (upd H l (.tup ys))) ∨ (SqT K H p ys ∧ Q (.ref p) H))
theorem rc_len {K : PySem.W.Frag} {ds : List Dn} : RvC (rLenK K) [dL ds] (dI ds.length) := fun xs N H s r Q q => by
  cases r with
  | cons h t =>
    cases t
    obtain ⟨a, vs, rfl, ha, r⟩ := h
    refine ⟨a, vs, rfl, .inl (SqL.of (s a _ ha)), ?_⟩
    rw [← r.len]
    exact q _ N H (.refl s) rfl
theorem rc_lenT {K : PySem.W.Frag} {ds : List Dn} : RvC (rLenK K) [dT ds] (dI ds.length) := fun xs N H s r Q q => by
  cases r with
  | cons h t =>
    cases t
    obtain ⟨a, vs, rfl, ha, r⟩ := h
    refine ⟨a, vs, rfl, .inr (SqT.of (s a _ ha)), ?_⟩
    rw [← r.len]
    exact q _ N H (.refl s) rfl
theorem rc_lenS {z : Str} (h : z.length ≤ 1000000) : RvC (fun xs H Q => ∃ z, xs = [.str z] ∧ z.length ≤ sizeLine ∧ Q (.int z.length) H) [dS z] (dI z.length) := fun xs N H s r Q q => by
  cases r with
  | cons h1 t =>
    cases t
    cases (show _ = V.str z from h1)
    exact ⟨z, rfl, by rw [sizeLine_eq]; omega, q _ N H (.refl s) rfl⟩
theorem rc_sum {K : PySem.W.Frag} {ns : List Int} : RvC (rSum K) [dL (ns.map dI)] (dI ns.sum) := fun xs N H s r Q q => by
  cases r with
  | cons h t =>
    cases t
    obtain ⟨a, vs, rfl, ha, r⟩ := h
    rw [rep_int r] at ha
    exact ⟨a, ns, rfl, SqL.of (s a _ ha), q _ N H (.refl s) rfl⟩
theorem rc_all {K : PySem.W.Frag} {ns : List Bool} : RvC (rAll K) [dL (ns.map dB)] (dB (ns.all id)) := fun xs N H s r Q q => by
  cases r with
  | cons h t =>
    cases t
    obtain ⟨a, vs, rfl, ha, r⟩ := h
    rw [rep_bl r] at ha
    exact ⟨a, ns, rfl, SqL.of (s a _ ha), q _ N H (.refl s) rfl⟩
theorem rc_any {K : PySem.W.Frag} {ns : List Bool} : RvC (rAny K) [dL (ns.map dB)] (dB (ns.any id)) := fun xs N H s r Q q => by
  cases r with
  | cons h t =>
    cases t
    obtain ⟨a, vs, rfl, ha, r⟩ := h
    rw [rep_bl r] at ha
    exact ⟨a, ns, rfl, SqL.of (s a _ ha), q _ N H (.refl s) rfl⟩
theorem rc_max {i j : Int} : RvC (fun xs H Q => ∃ i j, xs = [.int i, .int j] ∧ Q (.int (if j > i then j else i)) H) [dI i, dI j] (dI (max i j)) := fun xs N H s r Q q => by
  cases r with
  | cons h t => cases t with
    | cons h2 t =>
      cases t
      cases (show _ = V.int i from h)
      cases (show _ = V.int j from h2)
      refine ⟨i, j, rfl, q _ N H (.refl s) ?_⟩
      show V.int (if j > i then j else i) = V.int (max i j)
      congr 1
      split <;> omega
theorem rc_min {i j : Int} : RvC (fun xs H Q => ∃ i j, xs = [.int i, .int j] ∧ Q (.int (if j < i then j else i)) H) [dI i, dI j] (dI (min i j)) := fun xs N H s r Q q => by
  cases r with
  | cons h t => cases t with
    | cons h2 t =>
      cases t
      cases (show _ = V.int i from h)
      cases (show _ = V.int j from h2)
      refine ⟨i, j, rfl, q _ N H (.refl s) ?_⟩
      show V.int (if j < i then j else i) = V.int (min i j)
      congr 1
      split <;> omega
theorem rc_intB {b : Bool} : RvC (fun xs H Q => (∃ i, xs = [.int i] ∧ Q (.int i) H) ∨ ∃ k, xs = [.bl k] ∧ Q (.int (if k then 1 else 0)) H) [dB b] (dI (if b then 1 else 0)) := fun xs N H s r Q q => by
  cases r with
  | cons h t =>
    cases t
    cases (show _ = V.bl b from h)
    exact .inr ⟨b, rfl, q _ N H (.refl s) rfl⟩
theorem rc_list {K : PySem.W.Frag} {ds : List Dn} : RvCN (rLstK K) [dL ds] ds := fun xs N H s r Q q => by
  cases r with
  | cons h t =>
    cases t
    obtain ⟨a, vs, rfl, ha, r⟩ := h
    exact ⟨a, vs, rfl, .inl (SqL.of (s a _ ha)), fun l hl => q l vs N _ (.own s hl) hl (s.free hl) upd_same r⟩
theorem rc_tuple {K : PySem.W.Frag} {ds : List Dn} : RvC (rTupK K) [dL ds] (dT ds) := fun xs N H s r Q q => by
  cases r with
  | cons h t =>
    cases t
    obtain ⟨a, vs, rfl, ha, r⟩ := h
    exact ⟨a, vs, rfl, .inl ⟨SqL.of (s a _ ha), fun l hl => q _ _ _ (.new s hl) ⟨l, vs, rfl, upd_same, r.mono (Nx.new s hl).n⟩⟩⟩
/-- what type a value has -/
def TyD (d : Dn) (T : String) : Prop := ∀ (K : PySem.W.Frag) (v : V) (N H : Hp), Same N H → d.p v N → TyX K H v (.type T)
theorem td_int {i : Int} : TyD (dI i) "int" := fun K v N H s h => by cases (show v = V.int i from h); exact .base (.int i)
theorem td_bl {i : Bool} : TyD (dB i) "bool" := fun K v N H s h => by cases (show v = V.bl i from h); exact .base (.bl i)
theorem td_str {i : Str} : TyD (dS i) "str" := fun K v N H s h => by cases (show v = V.str i from h); exact .base (.str i)
theorem td_lst {ds : List Dn} : TyD (dL ds) "list" := fun K v N H s ⟨a, vs, e, h, _⟩ => by cases e; exact .base (.lst (s a _ h))
theorem td_tup {ds : List Dn} : TyD (dT ds) "tuple" := fun K v N H s ⟨a, vs, e, h, _⟩ => by cases e; exact .base (.tup (s a _ h))
theorem rc_isi {K : PySem.W.Frag} {d : Dn} {T n : String} {b : Bool} (t : TyD d T) (h : PySem.W.kitOne K (.type T) (.type n) = some b) : RvC (rIsi K) [d, dV (.ty n)] (dB b) := fun xs N H s r Q q => by
  cases r with
  | cons h1 t1 => cases t1 with
    | cons h2 t2 =>
      cases t2
      exact ⟨_, _, _, _, b, rfl, (show _ = V.ty n from h2) ▸ .ty n, t K _ N H s h1, h, q _ N H (.refl s) rfl⟩
/-! ### + of lists, tuples -/
theorem rn_cat {ds es : List Dn} (h : ds.length + es.length ≤ 1000000) : RvN rCat (dL ds) (dL es) (ds ++ es) := fun u v N H s hx hy Q q => by
  obtain ⟨a, vs, rfl, ha, r⟩ := hx
  obtain ⟨b, ws, rfl, hb, r'⟩ := hy
  exact ⟨a, b, vs, ws, rfl, rfl, s a _ ha, s b _ hb, by rw [← r.len, ← r'.len, sizeLine_eq]; omega, fun p hp => q p _ N _ (.own s hp) hp (s.free hp) upd_same (r.app r')⟩
/-! ### dicts -/
theorem valS_eq (kvs : List (Str × V)) (x : Str) : valV (kvs.map fun p => ((Sum.inr p.1 : Key), p.2)) (Sum.inr x) = kvs.lookup x := by
  induction kvs with
  | nil => rfl
  | cons p r ih =>
    obtain ⟨y, v⟩ := p
    by_cases h : y = x
    · subst h
      rw [List.map_cons, valV_pos rfl]
      simp [List.lookup_cons]
    · rw [List.map_cons, valV_neg (fun z => h (Sum.inr.inj z)), ih]
      have h2 : (x == y) = false := by simpa [beq_eq_false_iff_ne] using fun z : x = y => h z.symm
      rw [List.lookup_cons, h2]
theorem ev_dget2 {ρ : Ro} {td ty tx : TE} {kvs : List (Str × V)} {x : Str} {e z : Dn} (hd : Ev td ρ (dD kvs)) (hx : Ev ty ρ (dS x)) (he : Ev tx ρ e) (hz : ∀ v N, e.p v N → z.p ((kvs.lookup x).getD v) N) : Ev (tDGet2 td ty tx) ρ z := fun σ N H en s Q q =>
  hd σ N H en s _ fun v N1 H1 x1 p1 => by
    obtain ⟨a, rfl, ha⟩ := p1
    refine ⟨a, rfl, .inl ⟨_, .inl (x1.s a _ ha)⟩, hx σ N1 H1 (en.mono x1.n) x1.s _ fun v2 N2 H2 x2 p2 => he σ N2 H2 (en.mono (x1.trans x2).n) x2.s _ fun v3 N3 H3 x3 p3 => ?_⟩
    cases (show v2 = V.str x from p2)
    have h3 : H3 a = some (.dK _) := (x2.trans x3).h a _ (x1.s a _ ha)
    refine ⟨_, DGet.k (k := Sum.inr x) h3, ?_⟩
    rw [valS_eq]
    exact q _ N3 H3 ((x1.trans x2).trans x3) (hz v3 N3 p3)
theorem ev_din {ρ : Ro} {td ty : TE} {kvs : List (Str × V)} {x : Str} (hx : Ev ty ρ (dS x)) (hd : Ev td ρ (dD kvs)) : Ev (tDIn ty td) ρ (dB (kvs.lookup x).isSome) := fun σ N H en s Q q =>
  hx σ N H en s _ fun v N1 H1 x1 p1 => hd σ N1 H1 (en.mono x1.n) x1.s _ fun v2 N2 H2 x2 p2 => by
    cases (show v = V.str x from p1)
    obtain ⟨a, rfl, ha⟩ := p2
    refine ⟨a, _, rfl, DGet.k (k := Sum.inr x) (x2.s a _ ha), ?_⟩
    rw [valS_eq]
    exact q _ N2 H2 (x1.trans x2) rfl
theorem ev_dget {ρ : Ro} {td ty : TE} {kvs : List (Str × V)} {x : Str} {w : V} {z : Dn} (hd : Ev td ρ (dD kvs)) (hx : Ev ty ρ (dS x)) (hw : kvs.lookup x = some w) (hz : ∀ N, z.p w N) : Ev (tDGet td ty) ρ z := fun σ N H en s Q q =>
  hd σ N H en s _ fun v N1 H1 x1 p1 => hx σ N1 H1 (en.mono x1.n) x1.s _ fun v2 N2 H2 x2 p2 => by
    obtain ⟨a, rfl, ha⟩ := p1
    cases (show v2 = V.str x from p2)
    refine ⟨a, w, rfl, ?_, q _ N2 H2 (x1.trans x2) (hz N2)⟩
    have g := DGet.k (k := Sum.inr x) (x2.h a _ (x1.s a _ ha))
    rw [valS_eq, hw] at g
    exact g
/-! ### list.index -/
theorem ev_index {ρ : Ro} {K : PySem.W.Frag} {ta te : TE} {xs : List Str} {x : Str} {j : Nat} (ha : Ev ta ρ (dL (xs.map dS))) (he : Ev te ρ (dS x)) (hj : xs[j]? = some x) (hn : ∀ m, m < j → xs[m]? ≠ some x) : Ev (tBM K "list" (rIndex K) ta (tCons te tNil)) ρ (dI j) := fun σ N H en s Q q =>
  ha σ N H en s _ fun v N1 H1 x1 p1 => by
    obtain ⟨a, vs, rfl, h1, r⟩ := p1
    refine ⟨.inl ⟨rfl, _, SqL.of (x1.s a _ h1)⟩, he σ N1 H1 (en.mono x1.n) x1.s _ fun v2 N2 H2 x2 p2 => ?_⟩
    cases (show v2 = V.str x from p2)
    have e := rep_str r
    subst e
    refine ⟨a, _, .str x, j, .str x, rfl, rfl, SqL.of (x2.h a _ (x1.s a _ h1)), rfl, flat_str xs, by rw [List.getElem?_map, hj]; rfl, by simp [eqV], fun m z hm hz => ?_, q _ N2 H2 (x1.trans x2) rfl⟩
    rw [List.getElem?_map] at hz
    cases hy : xs[m]? with
    | none => rw [hy] at hz; cases hz
    | some y =>
      rw [hy] at hz
      cases hz
      have ne : y ≠ x := fun e => hn m hm (by rw [hy, e])
      simp [eqV, ne]
end Mu
/-! Defs, calls. -/
namespace Mu
open PySem PySem.Spec PyProof.Rows L2
/-- a def that may be called by its name -/
structure Cal (P : Program) (w : World) (K : PySem.W.Frag) (mg : Str → Option Value) (base : Heap) (k : Nat) (x : Str) (sp : Sp) : Prop where
  ex : ∃ (f : Addr) (fd : FuncData) (ps : List Str), FnOk P w K mg base CX0 k f fd ps sp ∧ mg x = some (.ref f) ∧ PySem.W.keepIn K (.ref f) = true ∧ Binds K fd ps []
/-- where a def of the text stands -/
structure DefF (K : PySem.W.Frag) (mg : Str → Option Value) (x : Str) (st : Stmt) : Prop where
  ex : ∃ (f : Addr) (fd : FuncData), FunD K x x (defArgs st) (defBody st) (defScope st) [] [] f fd ∧ mg x = some (.ref f)
/-- what the top has left, beside the defs -/
structure Txt (K : PySem.W.Frag) (mg : Str → Option Value) (kA : Addr) (sZ : Str) (kl : List Str) : Prop where
  len : mg "len" = none
  range : mg "range" = none
  sorted : mg "sorted" = none
  set : mg "set" = none
  sum : mg "sum" = none
  all : mg "all" = none
  any : mg "any" = none
  enumerate : mg "enumerate" = none
  zip : mg "zip" = none
  isinstance : mg "isinstance" = none
  min : mg "min" = none
  max : mg "max" = none
  int : mg "int" = none
  list : mg "list" = none
  dict : mg "dict" = none
  tuple : mg "tuple" = none
  bool : mg "bool" = none
  str : mg "str" = none
  kinds : mg "KINDS" = some (.ref kA)
  kindsL : ∀ H, SqL K H kA (kl.map V.str)
  signs : ∃ t, mg "SIGNS" = some (.str sZ t)
section
variable {P : Program} {w : World} {K : PySem.W.Frag} {mg : Str → Option Value} {base : Heap}
theorem Cal.mono {j k : Nat} {x : Str} {sp : Sp} (c : Cal P w K mg base j x sp) (h : j ≤ k) : Cal P w K mg base k x sp := by
  obtain ⟨f, fd, ps, F, r⟩ := c.ex
  exact ⟨f, fd, ps, F.mono h, r⟩
theorem Cal.imp {k : Nat} {x : Str} {sp sp' : Sp} (c : Cal P w K mg base k x sp) (h : ∀ vs H Q E, sp' vs H Q E → sp vs H Q E) : Cal P w K mg base k x sp' := by
  obtain ⟨f, fd, ps, F, r⟩ := c.ex
  exact ⟨f, fd, ps, F.imp h, r⟩
abbrev BindOk (x : Str) (st : Stmt) (ps : List Str) : Prop := ∀ (kV doc pm : Value) (an : Option Addr) (cdv ct : Value) (us : List Value), us.length = ps.length → bindArgs (PySem.W.fnOf x x (defArgs st) (defBody st) (defScope st) .none kV doc pm an cdv ct) ⟨us, []⟩ = pure (ps.zip us)
/-- a def's body as a term of rules, at any context, and what is shown of its reading -/
abbrev BodyGo (P : Program) (w : World) (K : PySem.W.Frag) (mg : Str → Option Value) (base : Heap) (k : Nat) (x : Str) (st : Stmt) (N : List Str) (C : TS → Prop) : Prop :=
  ∀ (f : Addr) (cdv : Value) (A : Around) (outer : List Env) (s : Shared) (H : Hp) (E : XK), Room k (A.deeper (envOfC x (defScope st) s.heap.objs.size f cdv)) → ∃ t, PSs (cxOf CX0 P w K mg base N x (defScope st) f cdv A outer s H E).nox (defBody st) t ∧ C t
theorem start_en {N : List Str} {ds : List Dn} {vs : List V} {Nn : Hp} (r : Rep Nn ds vs) : En (ds.map some ++ List.replicate (N.length - ds.length) none) (L2.start N vs) Nn := by
  refine ⟨?_, fun i d h => ?_⟩
  · unfold L2.start
    rw [List.length_append, List.length_append, List.length_map, List.length_map, List.length_replicate, List.length_replicate, r.len]
  · unfold L2.start
    by_cases hi : i < ds.length
    · rw [List.getElem?_append_left (by rw [List.length_map]; exact hi), List.getElem?_map] at h
      cases hd : ds[i]? with
      | none => rw [hd] at h; cases h
      | some d' =>
        rw [hd] at h
        cases h
        obtain ⟨v, hv, p⟩ := r.at hd
        refine ⟨v, ?_, p⟩
        rw [List.getElem?_append_left (by rw [List.length_map, ← r.len]; exact hi), List.getElem?_map, hv]
        rfl
    · rw [List.getElem?_append_right (by rw [List.length_map]; omega), List.getElem?_replicate] at h
      split at h
      · cases h
      · cases h
theorem cal_run {k : Nat} {x : Str} {st : Stmt} {N ps : List Str} {sp : Sp} (F : DefF K mg x st) (S : FnScope N ps (defScope st)) (hb : BindOk x st ps) (len : ∀ vs H Q E, sp vs H Q E → vs.length = ps.length)
    (hp : BodyGo P w K mg base k x st N fun t => ∀ vs H Q E, sp vs H Q E → t { nx := fun _ H' => Q .non H', rt := Q } (L2.start N vs) H) : Cal P w K mg base (k + 1) x sp := by
  obtain ⟨f, fd, D, hm⟩ := F.ex
  refine ⟨f, fd, ps, D.ok S len fun cdv A outer s H vs Q E hr q => ?_, hm, D.kp, D.bindsN hb⟩
  obtain ⟨t, ht, g⟩ := hp f cdv A outer s H E hr
  exact ⟨t, ht.nox, g vs H Q E q⟩
/-- a def that hands back what d tells -/
theorem cal_go {k : Nat} {x : Str} {st : Stmt} {N ps : List Str} {Φ : List Dn → Dn → Prop} (F : DefF K mg x st) (S : FnScope N ps (defScope st)) (hb : BindOk x st ps) (hl : ∀ ds d, Φ ds d → ds.length = ps.length)
    (hp : BodyGo P w K mg base k x st N fun t => ∀ ds d, Φ ds d → Go t (ds.map some ++ List.replicate (N.length - ds.length) none) none (Brt d)) : Cal P w K mg base (k + 1) x (spF Φ) := by
  refine cal_run F S hb (fun vs H Q E ⟨N1, ds, d, f, s, r, q⟩ => by rw [← r.len]; exact hl ds d f) fun f cdv A outer s H E hr => ?_
  obtain ⟨t, ht, g⟩ := hp f cdv A outer s H E hr
  exact ⟨t, ht, fun vs H Q E ⟨N1, ds, d, f, s, r, q⟩ => g ds d f N1 N1 H _ N1 H _ ⟨Same.refl _, .refl s, start_en r, fun _ e => nomatch e⟩ fun v N' H' x p => q v N' H' x p⟩
/-- .. that runs to its end -/
theorem cal_goE {k : Nat} {x : Str} {st : Stmt} {N ps : List Str} {Φ : List Dn → Dn → Prop} (F : DefF K mg x st) (S : FnScope N ps (defScope st)) (hb : BindOk x st ps) (hl : ∀ ds d, Φ ds d → ds.length = ps.length ∧ d = dN)
    (hp : BodyGo P w K mg base k x st N fun t => ∀ ds d, Φ ds d → Go t (ds.map some ++ List.replicate (N.length - ds.length) none) none Bend) : Cal P w K mg base (k + 1) x (spF Φ) := by
  refine cal_run F S hb (fun vs H Q E ⟨N1, ds, d, f, s, r, q⟩ => by rw [← r.len]; exact (hl ds d f).1) fun f cdv A outer s H E hr => ?_
  obtain ⟨t, ht, g⟩ := hp f cdv A outer s H E hr
  refine ⟨t, ht, fun vs H Q E ⟨N1, ds, d, f, s, r, q⟩ => ?_⟩
  obtain ⟨_, e⟩ := hl ds d f
  subst e
  exact g ds dN f N1 N1 H _ N1 H _ ⟨Same.refl _, .refl s, start_en r, fun _ e => nomatch e⟩ fun σ N' H' x => q _ N' H' x rfl
/-- .. that hands back a new list -/
theorem cal_goN {k : Nat} {x : Str} {st : Stmt} {N ps : List Str} {Φ : List Dn → List Dn → Prop} (F : DefF K mg x st) (S : FnScope N ps (defScope st)) (hb : BindOk x st ps) (hl : ∀ ds d, Φ ds d → ds.length = ps.length)
    (hp : BodyGo P w K mg base k x st N fun t => ∀ ds zs, Φ ds zs → Go t (ds.map some ++ List.replicate (N.length - ds.length) none) none (BrtN zs)) : Cal P w K mg base (k + 1) x (spN Φ) := by
  refine cal_run F S hb (fun vs H Q E ⟨N1, ds, d, f, s, r, q⟩ => by rw [← r.len]; exact hl ds d f) fun f cdv A outer s H E hr => ?_
  obtain ⟨t, ht, g⟩ := hp f cdv A outer s H E hr
  exact ⟨t, ht, fun vs H Q E ⟨N1, ds, d, f, s, r, q⟩ => g ds d f N1 N1 H _ N1 H _ ⟨Same.refl _, .refl s, start_en r, fun _ e => nomatch e⟩ fun a vs N' H' x h0 h1 h2 h3 => q a vs N' H' x h0 h1 h2 h3⟩
/-- a promise: from as x, where pre x, it hands back r x -/
def Fs {α : Type} (pre : α → Prop) (as : α → List Dn) (r : α → Dn) : List Dn → Dn → Prop := fun ds d => ∃ x, pre x ∧ ds = as x ∧ d = r x
def FsN {α : Type} (pre : α → Prop) (as : α → List Dn) (r : α → List Dn) : List Dn → List Dn → Prop := fun ds d => ∃ x, pre x ∧ ds = as x ∧ d = r x
section
variable {k : Nat} {x : Str} {st : Stmt} {N ps : List Str} {α : Type} {pre : α → Prop} {as : α → List Dn}
abbrev ro0 (N : List Str) (ds : List Dn) : Ro := ds.map some ++ List.replicate (N.length - ds.length) none
theorem cal_fs {r : α → Dn} (F : DefF K mg x st) (S : FnScope N ps (defScope st)) (hb : BindOk x st ps) (hl : ∀ z, (as z).length = ps.length)
    (hp : BodyGo P w K mg base k x st N fun t => ∀ z, pre z → Go t (ro0 N (as z)) none (Brt (r z))) : Cal P w K mg base (k + 1) x (spF (Fs pre as r)) := by
  refine cal_go F S hb (fun ds d ⟨z, _, e, _⟩ => by rw [e]; exact hl z) fun f cdv A outer s H E hr => ?_
  obtain ⟨t, ht, g⟩ := hp f cdv A outer s H E hr
  refine ⟨t, ht, fun ds d ⟨z, h, e1, e2⟩ => ?_⟩
  subst e1 e2
  exact g z h
theorem cal_fsE (F : DefF K mg x st) (S : FnScope N ps (defScope st)) (hb : BindOk x st ps) (hl : ∀ z, (as z).length = ps.length)
    (hp : BodyGo P w K mg base k x st N fun t => ∀ z, pre z → Go t (ro0 N (as z)) none Bend) : Cal P w K mg base (k + 1) x (spF (Fs pre as fun _ => dN)) := by
  refine cal_goE F S hb (fun ds d ⟨z, _, e, e2⟩ => ⟨by rw [e]; exact hl z, e2⟩) fun f cdv A outer s H E hr => ?_
  obtain ⟨t, ht, g⟩ := hp f cdv A outer s H E hr
  refine ⟨t, ht, fun ds d ⟨z, h, e1, e2⟩ => ?_⟩
  subst e1 e2
  exact g z h
theorem cal_fsN {r : α → List Dn} (F : DefF K mg x st) (S : FnScope N ps (defScope st)) (hb : BindOk x st ps) (hl : ∀ z, (as z).length = ps.length)
    (hp : BodyGo P w K mg base k x st N fun t => ∀ z, pre z → Go t (ro0 N (as z)) none (BrtN (r z))) : Cal P w K mg base (k + 1) x (spN (FsN pre as r)) := by
  refine cal_goN F S hb (fun ds d ⟨z, _, e, _⟩ => by rw [e]; exact hl z) fun f cdv A outer s H E hr => ?_
  obtain ⟨t, ht, g⟩ := hp f cdv A outer s H E hr
  refine ⟨t, ht, fun ds d ⟨z, h, e1, e2⟩ => ?_⟩
  subst e1 e2
  exact g z h
end
/-- a new list may be told to all -/
theorem Cal.told {k : Nat} {x : Str} {Φ : List Dn → List Dn → Prop} (c : Cal P w K mg base k x (spN Φ)) : Cal P w K mg base k x (spF fun ds d => ∃ zs, Φ ds zs ∧ d = dL zs) := c.imp fun vs H Q E ⟨N1, ds, d, ⟨zs, f, e⟩, s, r, q⟩ =>
  ⟨N1, ds, zs, f, s, r, fun a ws N' H' x h0 h1 h2 h3 => q _ _ _ (x.tell h0 h2 h1) (by subst e; exact ⟨a, ws, rfl, upd_same, h3.mono fun b u z => by rw [upd_ne (ne_of_none z h1)]; exact z⟩)⟩
theorem pe_cal {X : Cx} {j k : Nat} {x : Str} {sp : Sp} {e : Expr} {es : List Expr} {t : TA} {p pos : Pos} (c : Cal X.prog X.w X.K X.mg X.base k x sp) (hr : Room j X.A) (hk : k ≤ j) (hg : Gl X x) (ha : PA X (e :: es) t)
    (hdb : (x == ("__debug__" : Str)) = false := by decide) (he : starEach (e :: es) X.env = (false, eval e X.env) :: starEach es X.env := by rfl) (hpl : (backTo pos (starEach es X.env)).any (·.1) = false := by rfl) :
    PE X (.Call (.Name x p) (e :: es) [] pos) (tCall sp [] E0 t) := by
  obtain ⟨f, fd, ps, F, hm, kp, b⟩ := c.ex
  exact pe_call F (hr.mono hk) hg hm kp b .nil pass0 ha hdb he hpl
/-- a def's name as a value -/
theorem pe_defv {X : Cx} {k : Nat} {x : Str} {sp : Sp} {pos : Pos} {f : Addr} (hm : X.mg x = some (.ref f)) (hg : Gl X x) (hd : (x == ("__debug__" : Str)) = false := by decide) : PE X (.Name x pos) (tC (.ref f)) := pe_glob hg hm rfl hd
theorem pe_signs {X : Cx} {x : Str} {z : Str} {pos : Pos} (hm : ∃ t, X.mg x = some (.str z t)) (hg : Gl X x) (hd : (x == ("__debug__" : Str)) = false := by decide) : PE X (.Name x pos) (tC (.str z)) := by
  obtain ⟨t, hm⟩ := hm
  exact pe_glob hg hm ⟨_, rfl⟩ hd
end
/-! the layer's rules, the written part by its own name -/
section
variable {X : Cx} (K : PySem.W.Frag)
theorem k_ixL (h : X.K = K) : IxR X (rIxL K) := h ▸ ix_list
theorem k_ixT (h : X.K = K) : IxR X (rIxT K) := h ▸ ix_tup
theorem k_slL (h : X.K = K) : SlR X (rSlL K) := h ▸ sl_list
theorem k_slT (h : X.K = K) : SlR X (rSlT K) := h ▸ sl_tup
theorem k_in (h : X.K = K) : OpR X (compareOp .In) (rIn K false) := h ▸ op_in_seq
theorem k_nin (h : X.K = K) : OpR X (compareOp .NotIn) (rIn K true) := h ▸ op_notIn_seq
theorem k_eqD (h : X.K = K) (hu : X.A.units + 64 < cLine) : OpR X (compareOp .Eq) (rEqD K) := h ▸ op_eqD hu
theorem k_neD (h : X.K = K) (hu : X.A.units + 64 < cLine) : OpR X (compareOp .NotEq) (rNeD K) := h ▸ op_neD hu
theorem k_catT (h : X.K = K) : OpR X (binaryOp .Add) (rCatT K) := h ▸ op_catT
theorem k_len (h : X.K = K) : CallR X (.builtin "len") (rLenK K) := h ▸ call_len_seq
theorem k_list (h : X.K = K) : CallR X (.type "list") (rLstK K) := h ▸ call_list_of
theorem k_tuple (h : X.K = K) : CallR X (.type "tuple") (rTupK K) := h ▸ call_tuple_of
theorem k_sum (h : X.K = K) (hc : X.calm = true) : CallR X (.builtin "sum") (rSum K) := h ▸ cr_sum hc
theorem k_all (h : X.K = K) (hc : X.calm = true) : CallR X (.builtin "all") (rAll K) := h ▸ cr_all hc
theorem k_any (h : X.K = K) (hc : X.calm = true) : CallR X (.builtin "any") (rAny K) := h ▸ cr_any hc
theorem k_isi (h : X.K = K) : CallR X (.builtin "isinstance") (rIsi K) := h ▸ call_isi
theorem k_sortedS (h : X.K = K) : CallR X (.builtin "sorted") (rSortedS K) := h ▸ cr_sortedS
theorem k_index (h : X.K = K) : MtR X "list.index" (rIndex K) := h ▸ mt_index
end
/-- ** of whole numbers whose answer has few bits -/
def CPowW (i j : Int) : Prop := 0 ≤ j ∧ (Builtin.Int.intBits i : Int) * j ≤ 2 ^ 27
theorem op_powW {X : Cx} : OpR X (binaryOp .Pow) (rI CPowW fun i j => .int (i ^ j.toNat)) := opI fun _ _ _ _ _ _ _ hc q => pow_int hc.1 hc.2 q
theorem rv_pow {i j : Int} (h : CPowW i j) : RvR (rI CPowW fun i j => .int (i ^ j.toNat)) (dI i) (dI j) (dI (i ^ j.toNat)) := rv_I h fun _ => rfl
end Mu
/-! Sets of texts: made of a list, told by their number, sorted. -/
namespace Mu
open PySem PySem.Spec PyProof.Rows L2
abbrev kS (P : Program) (w : World) := PySem.strKind P w
def txOf (e : Int × Value) : Str := match e.2 with
  | .str x _ => x
  | _ => Str.empty
def TxE (w : World) (e : Int × Value) : Prop := ∃ x t, e.2 = Value.str x t ∧ e.1 = hashStr w x
/-- the set at a holds just these texts; it can be walked -/
def TxR (w : World) (h : Heap) (a : Addr) (xs : List Str) : Prop :=
  ∃ o es ep t, (h.get? a = some o ∧ o.ExactSet ∧ o.data = .set es ep t) ∧ ((∀ e ∈ es.toList, TxE w e) ∧ (es.toList.map txOf).Perm xs ∧ xs.Nodup) ∧ (es.size < scanBound ∧ t.fits es.size = true) ∧ Ris t.place.toList ∧
    (w.params.followText "set-order" = true ∨ t.led = true)
abbrev set0 (w : World) : Obj := { cls := .type "set", dict := none, data := .set #[] 0 (.fresh 0 0 (!w.params.followText "set-order")) }
section
variable {P : Program} {w : World} {A : Around} {E : Value → Shared → Prop} {s : Shared} {a : Addr} {xs : List Str}
theorem TxR.stay {h h' : Heap} (R : TxR w h a xs) (k : ∀ o, h.get? a = some o → h'.get? a = some o) : TxR w h' a xs := by
  obtain ⟨o, es, ep, t, ⟨h1, h2⟩, r⟩ := R
  exact ⟨o, es, ep, t, ⟨k o h1, h2⟩, r⟩
theorem tx_elems {l : List (Int × Value)} (g : ∀ e ∈ l, TxE w e) : ElemsOf (kS P w) l := fun e he => by
  obtain ⟨x, t, h1, h2⟩ := g e he
  refine ⟨⟨x, ?_, h2⟩, by rw [h1]; rfl⟩
  rw [h1]
  exact strKind_is P w x t
theorem tx_is {e : Int × Value} (g : TxE w e) (x : Str) : (kS P w).is x e.2 = true ↔ txOf e = x := by
  obtain ⟨y, t, h1, _⟩ := g
  unfold txOf
  rw [h1]
  show (y == x) = true ↔ y = x
  exact beq_iff_eq
theorem tx_mem {l : List (Int × Value)} (g : ∀ e ∈ l, TxE w e) (x : Str) : x ∈ l.map txOf ↔ ∃ e ∈ l, (kS P w).is x e.2 = true := by
  rw [List.mem_map]
  exact ⟨fun ⟨e, he, q⟩ => ⟨e, he, (tx_is (g e he) x).mpr q⟩, fun ⟨e, he, q⟩ => ⟨e, he, (tx_is (g e he) x).mp q⟩⟩
theorem txR_new {h : Heap} (ho : h.get? a = some (set0 w)) : TxR w h a [] := by
  refine ⟨_, #[], 0, _, ⟨ho, ⟨rfl, rfl, rfl⟩, rfl⟩, ⟨fun e he => by simp at he, List.Perm.refl _, List.nodup_nil⟩, ⟨by decide, by rfl⟩, List.Pairwise.nil, ?_⟩
  show _ ∨ (!w.params.followText "set-order") = true
  cases w.params.followText "set-order" with
  | true => exact .inl rfl
  | false => exact .inr rfl
/-- the laying of one more -/
theorem tx_tail {gv : Bool → Sem Unit} (hg : ∀ (b : Bool) (s₁ : Shared) (Q' : Unit → Shared → Prop), Q' () s₁ → wpAny (model P w) A (gv b) Q' E s₁)
    {o : Obj} {es : Array (Int × Value)} {ep : Nat} {t : SetTable} (q1 : s.heap.get? a = some o) (q2 : o.ExactSet) (q3 : o.data = .set es ep t)
    {es1 : Array (Int × Value)} {t1 : SetTable} (g1 : (∀ e ∈ es1.toList, TxE w e) ∧ (es1.toList.map txOf).Perm xs ∧ xs.Nodup)
    (b1 : es1.size < scanBound) (f1 : t1.fits es1.size = true) (r1 : Ris t1.place.toList) (l1 : w.params.followText "set-order" = true ∨ t1.led = true) {dm : Bool} {R : Option Bool → Shared → Prop}
    (hR : ∀ h', Heap.SameBut a s.heap h' → TxR w h' a xs → R (some true) { s with heap := h' }) :
    wpAny (model P w) A (do
      storeSet a es1 t1
      if (!dm && t1.tooFull) = true then do
          gv (relayAll t1 es1 (SetTable.grown es1.size)).2.2
          storeSet a (relayAll t1 es1 (SetTable.grown es1.size)).1 (relayAll t1 es1 (SetTable.grown es1.size)).2.1
          pure (some true)
        else pure (some true)) R E s := by
  refine wpAny_bind (wpAny_storeSet_of q1 q3 ?_ (fits_of_scanBound b1))
  have z1 := store_at (es' := es1) (t' := t1) q1 q3
  have y1 := Heap.SameBut.update s.heap a (Obj.putSet es1 t1)
  split
  · have c1 := relayAll_perm t1 es1 (SetTable.grown es1.size)
    have c2 := relayAll_fits t1 es1 (SetTable.grown es1.size)
    have c3 := relayAll_ris t1 es1 (SetTable.grown es1.size)
    have c4 := relayAll_led t1 es1 (SetTable.grown es1.size)
    generalize relayAll t1 es1 (SetTable.grown es1.size) = Y at c1 c2 c3 c4 ⊢
    obtain ⟨es2, t2, gave⟩ := Y
    dsimp only at c1 c2 c3 c4 ⊢
    have sz : es2.size = es1.size := by
      rw [← Array.length_toList, c1.length_eq, Array.length_toList]
    have b2 : es2.size < scanBound := by
      rw [sz]; exact b1
    refine wpAny_bind (hg _ _ _ ?_)
    refine wpAny_bind (wpAny_storeSet_of z1 rfl ?_ (fits_of_scanBound b2))
    have z2 := store_at (es' := es2) (t' := t2) z1 rfl
    refine wpAny_pure (hR _ (y1.trans (Heap.SameBut.update _ a _)) ?_)
    refine ⟨_, es2, _, t2, ⟨z2, q2, rfl⟩, ⟨fun e he => g1.1 e (c1.mem_iff.mp he), (c1.map txOf).trans g1.2.1, g1.2.2⟩, ⟨b2, c2⟩, c3, ?_⟩
    exact l1.imp id fun z => by rw [c4]; exact z
  · exact wpAny_pure (hR _ y1 ⟨_, es1, _, t1, ⟨z1, q2, rfl⟩, g1, ⟨b1, f1⟩, r1, l1⟩)
theorem tx_add {x : Str} {tk : Tok} {Q : Bool → Shared → Prop} (R : TxR w s.heap a xs) (room : xs.length + 1 < scanBound)
    (hQ : ∀ h' b, Heap.SameBut a s.heap h' → TxR w h' a (if x ∈ xs then xs else xs ++ [x]) → Q b { s with heap := h' }) :
    wpAny (model P w) A (setAddHashed a (.str x tk) (hashStr w x)) Q E s := by
  obtain ⟨o, es, ep, t, ⟨q1, q2, q3⟩, ⟨g, pm0, nd⟩, ⟨b0, f0⟩, r0, l0⟩ := R
  have e1 : (kS P w).is x (.str x tk) = true := strKind_is P w x tk
  have e2 : (Value.str x tk).scannable = true := rfl
  have e3 : ElemsOf (kS P w) es.toList := tx_elems g
  unfold setAddHashed setAddHashedIn
  refine wpAny_holding (wpAny_bind (wpAny_setState_of q1 q3 f0 ?_))
  dsimp only
  rw [byScan_of e2 b0 e3]
  simp only [↓reduceIte]
  unfold setAddByScan
  refine wpAny_bind ?_
  refine wpAny_bind (wpAny_rule ?_)
  refine wpAny_bind (wpAny_setScan_of e1 q1 q3 f0 e3 ?_)
  cases fi : List.findIdx? (fun e => (kS P w).is x e.2) es.toList with
  | some j =>
    dsimp only
    obtain ⟨hj, pj, _⟩ := List.findIdx?_eq_some_iff_getElem.mp fi
    have hx : x ∈ xs := pm0.mem_iff.mp ((tx_mem (P := P) g x).mpr ⟨es.toList[j], List.getElem_mem hj, pj⟩)
    refine wpAny_pure (wpAny_pure ?_)
    have q := hQ s.heap false (Heap.SameBut.refl a s.heap) ⟨o, es, ep, t, ⟨q1, q2, q3⟩, ⟨g, by rw [if_pos hx]; exact pm0, by rw [if_pos hx]; exact nd⟩, ⟨b0, f0⟩, r0, l0⟩
    exact q
  | none =>
    dsimp only
    have nx : x ∉ xs := fun z => by
      obtain ⟨e, he, q⟩ := (tx_mem (P := P) g x).mp (pm0.mem_iff.mpr z)
      have c := List.findIdx?_eq_none_iff.mp fi e he
      rw [q] at c
      cases c
    have gw : ∀ (b : Bool) {s₁ : Shared} {Q' : Unit → Shared → Prop}, Q' () s₁ → wpAny (model P w) A (match b with | true => rule "set.scan.the-table-gave-way" | false => pure ()) Q' E s₁ := fun b s₁ Q' q => by
      cases b with
      | true => exact wpAny_rule q
      | false => exact wpAny_pure q
    have c1 := layNew_perm t es (hashStr w x) (.str x tk)
    have c2 := layNew_fits t es (hashStr w x) (.str x tk)
    have c3 := layNew_ris t es (hashStr w x) (.str x tk) r0
    have c4 := layNew_led t es (hashStr w x) (.str x tk)
    generalize layNew t es (hashStr w x) (.str x tk) = Y at c1 c2 c3 c4 ⊢
    obtain ⟨es1, t1, dm, gave⟩ := Y
    dsimp only at c1 c2 c3 c4 ⊢
    rw [Array.toList_push] at c1
    have pc : es1.toList.Perm ((hashStr w x, Value.str x tk) :: es.toList) := c1.trans (List.perm_append_singleton _ _)
    have g1 : ∀ e ∈ es1.toList, TxE w e := fun e he => by
      rcases List.mem_cons.mp (pc.mem_iff.mp he) with z | z
      · rw [z]; exact ⟨x, tk, rfl, rfl⟩
      · exact g e z
    have p1 : (es1.toList.map txOf).Perm (xs ++ [x]) := (pc.map txOf).trans ((pm0.cons x).trans (List.perm_append_singleton x xs).symm)
    have n1 : (xs ++ [x]).Nodup := (List.perm_append_singleton x xs).nodup_iff.mpr (List.nodup_cons.mpr ⟨nx, nd⟩)
    have sz : es1.size = xs.length + 1 := by
      rw [← Array.length_toList, ← List.length_map (f := txOf), p1.length_eq, List.length_append]; rfl
    have b1 : es1.size < scanBound := by
      rw [sz]; exact room
    have l1 : w.params.followText "set-order" = true ∨ t1.led = true := l0.imp id fun z => by rw [c4]; exact z
    have fin : ∀ h', Heap.SameBut a s.heap h' → TxR w h' a (xs ++ [x]) → Q true { s with heap := h' } := fun h' sb r => hQ h' true sb (by rw [if_neg nx]; exact r)
    refine wpAny_bind (gw _ ?_)
    split
    · refine wpAny_bind ?_
      rw [hashByValue_scannable 8 e2]
      refine wpAny_pure ?_
      refine tx_tail ?_ q1 q2 q3 ⟨g1, p1, n1⟩ b1 ?_ ?_ ?_ ?_
      · intro b s₁ Q' q
        cases b with
        | true => exact wpAny_rule q
        | false => exact wpAny_pure q
      · first | (split <;> first | exact c2 | exact SetTable.fits_plain_off c2) | exact c2
      · first | (split <;> exact c3) | exact c3
      · first | (split <;> exact l1) | exact l1
      · intro h' sb r; dsimp only; exact wpAny_pure (fin h' sb r)
    · refine wpAny_bind (wpAny_pure ?_)
      simp only [↓reduceIte]
      refine tx_tail ?_ q1 q2 q3 ⟨g1, p1, n1⟩ b1 c2 c3 l1 ?_
      · intro b s₁ Q' q
        cases b with
        | true => exact wpAny_rule q
        | false => exact wpAny_pure q
      · intro h' sb r; dsimp only; exact wpAny_pure (fin h' sb r)
/-- the texts met so far, each once -/
def met (ys : List Str) : List Str := ys.foldl (fun us x => if x ∈ us then us else us ++ [x]) []
theorem met_snoc (ys : List Str) (x : Str) : met (ys ++ [x]) = if x ∈ met ys then met ys else met ys ++ [x] := by
  unfold met
  rw [List.foldl_append]
  rfl
theorem met_len (ys : List Str) : (met ys).length ≤ ys.length := by
  have gen : ∀ (zs us : List Str), (zs.foldl (fun us x => if x ∈ us then us else us ++ [x]) us).length ≤ us.length + zs.length := by
    intro zs
    induction zs with
    | nil => intro us; exact Nat.le_refl _
    | cons z zs ih =>
      intro us
      rw [List.foldl_cons, List.length_cons]
      have h := ih (if z ∈ us then us else us ++ [z])
      have e : (if z ∈ us then us else us ++ [z]).length ≤ us.length + 1 := by
        split
        · omega
        · rw [List.length_append]
          exact Nat.le_refl _
      omega
  have := gen ys []
  simpa [met] using this
theorem met_mem (ys : List Str) (x : Str) : x ∈ met ys ↔ x ∈ ys := by
  have gen : ∀ (zs us : List Str), x ∈ zs.foldl (fun us x => if x ∈ us then us else us ++ [x]) us ↔ x ∈ us ∨ x ∈ zs := by
    intro zs
    induction zs with
    | nil => intro us; simp
    | cons z zs ih =>
      intro us
      rw [List.foldl_cons, ih]
      by_cases h : z ∈ us
      · rw [if_pos h, List.mem_cons]
        exact ⟨fun q => q.elim .inl fun q => .inr (.inr q), fun q => q.elim .inl fun q => q.elim (fun e => .inl (e ▸ h)) .inr⟩
      · rw [if_neg h, List.mem_append, List.mem_singleton, List.mem_cons]
        exact or_assoc
  have := gen ys []
  simpa [met] using this
theorem tx_loop {I : Addr} {fp wr : List Addr} {G : Array GenState → Array GenState → Prop} {n : Nat} {Pv : Nat → Value → Prop} {St : Nat → Shared → Prop} {R : Result → Shared → Prop}
    (W : WalksS P w A.in1 I fp wr G n Pv St) (S : Addr) (nS : S ∉ fp) (ys : List Str) (hn : n = ys.length) (hb : ys.length + 1 < scanBound) (hv : ∀ i v, Pv i v → ∃ x t, ys[i]? = some x ∧ v = .str x t) :
    ∀ (k i : Nat) (s : Shared), n - i = k → i ≤ n → St i s → TxR w s.heap S (met (ys.take i)) → (∀ s', Moved (S :: wr) G s s' → TxR w s'.heap S (met ys) → R (.ok (.ret .none)) s') →
      codeAny (model P w) A (.builtin "set.update.loop" ⟨[.ref S, .ref I], []⟩) R s := by
  have nW : S ∉ wr := fun h => nS (W.sub _ h)
  have sub : ∀ b ∈ wr, b ∈ S :: wr := fun b hb => List.mem_cons_of_mem _ hb
  intro k
  induction k with
  | zero =>
    intro i s hk hi hst hS hR
    obtain rfl : i = n := by omega
    refine codeAny_builtin F.entry_set_update_loop ?_
    rw [Around.under_plainId F.plain_set_update_loop _]
    show wpAny _ A.in1 (pyNext (.ref I) >>= _) _ _ s
    refine wpAny_bind (W.done s _ _ hst fun s' hm => ?_)
    show wpAny _ A.in1 (ret Value.none) _ _ s'
    rw [List.take_of_length_le (by omega)] at hS
    exact wpAny_pure (hR s' (hm.mono sub) (hS.stay fun o e => hm.heap S o nW e))
  | succ k ih =>
    intro i s hk hi hst hS hR
    have lt : i < n := by omega
    refine codeAny_builtin F.entry_set_update_loop ?_
    rw [Around.under_plainId F.plain_set_update_loop _]
    show wpAny _ A.in1 (pyNext (.ref I) >>= _) _ _ s
    refine wpAny_bind (W.item i s _ _ lt hst fun v s' hP hst' hm => ?_)
    obtain ⟨z, t, hz, rfl⟩ := hv i v hP
    have hS' : TxR w s'.heap S (met (ys.take i)) := hS.stay fun o e => hm.heap S o nW e
    show wpAny _ A.in1 (holding [Value.str z t] (setAdd S (.str z t)) >>= _) _ _ s'
    refine wpAny_bind (wpAny_holding ?_)
    unfold setAdd
    refine wpAny_holding ?_
    refine wpAny_bind ((kS P w).pyHash (k := z) (strKind_is _ _ _ _) ?_)
    have room : (met (ys.take i)).length + 1 < scanBound := by
      have := met_len (ys.take i)
      rw [List.length_take] at this
      omega
    refine tx_add (s := { s' with toks := s'.toks + 1 }) hS' room fun h' b hsb hS2 => ?_
    have hS3 : TxR w h' S (met (ys.take (i + 1))) := by
      rw [List.take_add_one, hz]
      show TxR w h' S (met (ys.take i ++ [z]))
      rw [met_snoc]
      exact hS2
    refine wpAny_pure ⟨plainId_quiet F.plain_set_update_loop _, ih (i + 1) _ (by omega) lt (W.frame _ s' _ _ hst' (Nat.le_succ _) fun b hb o e => ?_) hS3 fun s'' hm'' hS'' => ?_⟩
    · have ne : b ≠ S := fun h => nS (by rw [← h]; exact hb)
      rw [hsb.2 b ne]
      exact e
    · refine hR s'' (Moved.trans W.gtrans ((hm.mono sub).then_heap (Nat.le_succ _) fun b o hb e => ?_) hm'') hS''
      have ne : b ≠ S := fun h => hb (by rw [h]; exact List.mem_cons_self)
      rw [hsb.2 b ne]
      exact e
set_option maxHeartbeats 3200000 in
theorem tx_call {l : Addr} {items : Array Value} (ys : List Str) {Q : Value → Shared → Prop} (hh : A.handled = none) (hl : s.heap.IsList l items) (hit : StrsAre items.toList ys) (hb : ys.length + 1 < scanBound)
    (h : ∀ (h' : Heap) (tk : Nat), TxR w h' s.heap.objs.size (met ys) → (∀ b o, s.heap.get? b = some o → h'.get? b = some o) → Q (.ref s.heap.objs.size) { s with heap := h', toks := tk }) :
    wpAny (model P w) A (call (.type "set") [.ref l]) Q E s := by
  have sz : items.size = ys.length := by
    rw [← Array.length_toList]; exact StrsAre.len_eq hit
  obtain ⟨c, tl, hmro⟩ := F.called_set.mro
  have hmade := F.called_set.made
  have hsub := F.called_set.sub
  refine wpAny_call (codeAny_of_tree ?_)
  show wpAny _ _ (callAny (.type "set") _) _ _ _
  refine wpAny_pure ⟨Code.quiet_builtin _ (by decide +kernel), codeAny_builtin F.entry_type_call ?_⟩
  rw [Around.under_plain (weight_type_call_type "set" [.ref l] []) rfl]
  have h1 := F.called_set.notType
  have h2 := F.called_set.canCreate
  have hct := F.typeCall_set_1 (.ref l)
  repeat (any_goals (first | assumption | wp_step))
  refine codeAny_mono (code_set_led1 (.ref l) (E := E) (Q₁ := fun obj s₁ => obj = .ref s.heap.objs.size ∧ s₁ = { s with heap := s.heap.push (set0 w) }) ⟨rfl, rfl⟩) fun r s₁ hr => ?_
  cases r with
  | error e => exact hr
  | ok fl =>
    cases fl with
    | ret obj =>
      obtain ⟨rfl, rfl⟩ := hr
      have gS : (s.heap.push (set0 w)).get? s.heap.objs.size = some (set0 w) := Heap.get?_push_size _ rfl
      have hT : Shared.TypeIs { s with heap := s.heap.push (set0 w) } (.ref s.heap.objs.size) "set" := ⟨_, gS, rfl⟩
      have hli := F.called_set.init.lookup
      have hbi := F.called_set.init.bind (.ref s.heap.objs.size)
      repeat (any_goals (first | assumption | wp_step))
      refine codeAny_mono (codeAny_call_builtin (R := wants (fun r s₂ => r = .none ∧ ∃ h' tk, s₂ = { s with heap := h', toks := tk } ∧ TxR w h' s.heap.objs.size (met ys) ∧ (∀ b o, s.heap.get? b = some o → h'.get? b = some o)) E) F.called_set.init.plain F.entry_set_init (check_set_init_1 hT ?_)) fun r₂ s₂ hr₂ => ?_
      · obtain ⟨ol, g0, hcl, nl, hdl⟩ := hl
        obtain ⟨ocls, odict, odata, oslots⟩ := ol
        simp only at hcl hdl
        subst hcl
        subst hdl
        have g1 : (s.heap.push (set0 w)).get? l = some { cls := .type "list", dict := odict, data := .seq items nl, slots := oslots } := Heap.get?_push_of_some _ g0
        have f1 := F.sub_list_set
        have f2 := F.sub_list_frozenset
        have f3 : (Value.type "list" == Value.type "dict") = false := by decide
        have l1 : (s.heap.push (set0 w)).IsList l items := ⟨_, g1, rfl, nl, rfl⟩
        unfold Builtin.«set.__init__» noKeywords Builtin.Frozenset.updateFrom
        generalize hPI : pyIter = PI
        wp_walk
        subst hPI
        refine wpAny_pyIter_list l1 ?_
        refine wpAny_bind (wpAny_runValue ?_)
        have l2 : l < s.heap.objs.size := Heap.lt_size g0
        have h3 : A.in1.in1.in1.handled = none := by simp [hh]
        have zp : (s.heap.push (set0 w)).objs.size = s.heap.objs.size + 1 := Heap.size_push ..
        have nI : l ≠ (s.heap.push (set0 w)).objs.size := by
          rw [zp]; exact Nat.ne_of_lt (Nat.lt_succ_of_lt l2)
        have nS : s.heap.objs.size ∉ [(s.heap.push (set0 w)).objs.size, l] := by
          rw [zp]
          intro z
          rcases List.mem_cons.mp z with z | z
          · exact absurd z (Nat.ne_of_lt (Nat.lt_succ_self _))
          · rw [List.mem_singleton] at z
            exact absurd z.symm (Nat.ne_of_lt l2)
        have hv : ∀ (i : Nat) (v : Value), items[i]? = some v → ∃ x t, ys[i]? = some x ∧ v = .str x t := fun i v hv => by
          have hi : i < ys.length := by
            rw [← sz]; exact (Array.getElem?_eq_some_iff.mp hv).1
          obtain ⟨t, e⟩ := SS.strs_at hit i v (by rw [Array.getElem?_toList]; exact hv)
          refine ⟨ys[i], t, List.getElem?_eq_getElem hi, ?_⟩
          rw [e, List.getD_eq_getElem?_getD, List.getElem?_eq_getElem hi]
          rfl
        refine tx_loop ((Walks.list h3 _ l nI items).toS) s.heap.objs.size nS ys sz hb hv (items.size - 0) 0 _ (by omega) (Nat.zero_le _) ⟨⟨_, Heap.get?_push_size _ rfl, rfl, rfl⟩, (l1.push _)⟩ ?hS0 ?hR
        case hS0 => exact txR_new (Heap.get?_push_of_some _ gS)
        case hR =>
          intro s' hm hS'
          obtain ⟨h', g2, d', tk', os'⟩ := s'
          have eg : g2 = s.gens := hm.gens
          have ed : d' = s.drawn := hm.drawn
          have eo : os' = s.os := hm.os
          subst eg ed eo
          show wpAny _ _ _ _ _ _
          refine wpAny_pure ?_
          show wpAny _ _ (ret Value.none) _ _ _
          refine wpAny_pure ⟨rfl, h', tk', rfl, hS', fun b o e => ?_⟩
          have b0 : b < s.heap.objs.size := Heap.lt_size e
          refine hm.heap b o (fun z => ?_) (Heap.get?_push_of_some _ (Heap.get?_push_of_some _ e))
          rcases List.mem_cons.mp z with z | z
          · exact absurd z (Nat.ne_of_lt b0)
          · rw [List.mem_singleton, zp] at z
            exact absurd z (Nat.ne_of_lt (Nat.lt_succ_of_lt b0))
      · cases r₂ with
        | error e => exact hr₂
        | ok fl₂ =>
          cases fl₂ with
          | ret r =>
            obtain ⟨rfl, h', tk, rfl, hS', hk'⟩ := hr₂
            repeat (any_goals (first | assumption | wp_step))
            exact h _ _ hS' hk'
          | _ => exact hr₂.elim
    | _ => exact hr.elim
theorem strs_of_vals : ∀ {us : List Value}, (∀ v ∈ us, ∃ x t, v = Value.str x t) → StrsAre us (us.map fun v => match v with | .str x _ => x | _ => Str.empty)
  | [], _ => .nil
  | u :: us, h => by
    obtain ⟨x, t, rfl⟩ := h u List.mem_cons_self
    exact .cons x t (strs_of_vals fun v hv => h v (List.mem_cons_of_mem _ hv))
theorem tx_sorted {Q : Value → Shared → Prop} (R : TxR w s.heap a xs) (hh : A.handled = none) (h64 : xs.length < 64)
    (hQ : ∀ s' p (out : Array Value) (c : Nat) (ys : List Str), (∀ b o, s.heap.get? b = some o → s'.heap.get? b = some o) → s'.gens = s.gens → s'.os = s.os → s.heap.objs.size ≤ p →
      s'.heap.get? p = some (seqObj "list" out c) → StrsAre out.toList ys → ys.Perm xs → Q (.ref p) s') :
    wpAny (model P w) A (call (.builtin "sorted") [.ref a]) Q E s := by
  obtain ⟨o, es, ep, t, ⟨q1, q2, q3⟩, ⟨g, pm0, nd⟩, ⟨b0, f0⟩, r0, l0⟩ := R
  refine Calls.call_function_entry kind_sorted plain_sorted entry_sorted (args_sorted1 _) ?_
  unfold Builtin.«sorted»
  refine wpAny_bind (m := checkCount "sorted" 1 1 _) (wpAny_pure ?_)
  refine wpAny_bind (collect_set (A := A.in1) hh ⟨o, q1, q2.1, q3⟩ f0 b0 r0 l0 fun s1 vs k1 hz g1 o1 pm => ?_)
  have vl : vs.length = xs.length := by
    rw [pm.length_eq, List.length_map, ← List.length_map (f := txOf), pm0.length_eq]
  have vS : StrsAre vs (vs.map fun v => match v with | .str x _ => x | _ => Str.empty) := strs_of_vals fun v hv => by
    obtain ⟨e, he, q⟩ := List.mem_map.mp (pm.mem_iff.mp hv)
    obtain ⟨x, tk, e1, _⟩ := g e he
    exact ⟨x, tk, by rw [← q]; exact e1⟩
  have pv : (vs.map fun v => match v with | .str x _ => x | _ => Str.empty).Perm xs := by
    have q := pm.map fun v => match v with | .str x _ => x | _ => Str.empty
    rw [List.map_map] at q
    exact q.trans pm0
  refine wpAny_bind (wpAny_newList ?_ (by rw [vl, sizeLine_eq]; omega))
  have oL : (s1.heap.push (seqObj "list" vs.toArray 0)).get? s1.heap.objs.size = some (seqObj "list" vs.toArray 0) := Heap.get?_push_size _ rfl
  refine wpAny_bind (wpAny_holding (wpAny_call_entry slot_list_sort ⟨_, oL, rfl⟩ entry_list_sort
    (list_sort_treeK strKind_oneLt (s := { s1 with heap := s1.heap.push (seqObj "list" vs.toArray 0) }) oL vS.keysOf (fun v₁ v₂ rest e => keyKind_strs (by rw [← e]; exact vS)) (by rw [vl]; exact h64) fun st' hp hs => ⟨_, rfl, ?_⟩)
    (args_list_sort _)))
  obtain ⟨ys, y1, y2, y3⟩ := sorted_out_str vS hp hs
  obtain ⟨c, hc⟩ := sortedHeap_at (vs := vs) (out := (arrOf st').map (·.2)) oL
  refine wpAny_pure ⟨_, rfl, hQ _ s1.heap.objs.size _ c ys (fun b u e => ?_) g1 o1 hz hc y1 (y2.trans pv)⟩
  have q := k1 b u e
  have lt := Heap.lt_size q
  show (sortedHeap (s1.heap.push (seqObj "list" vs.toArray 0)) s1.heap.objs.size vs _).get? b = some u
  rw [sortedHeap_old (Nat.ne_of_lt lt) (by rw [size_push']; exact Nat.lt_succ_of_lt lt)]
  exact Heap.get?_push_of_some _ q
end
theorem strs_are : ∀ {ys : List Str} {us : List Value}, Vals (ys.map V.str) us → StrsAre us ys
  | [], _, .nil => .nil
  | y :: ys, _, .cons r t => by
    obtain ⟨k, rfl⟩ := r
    exact .cons y k (strs_are t)
theorem vals_are : ∀ {ys : List Str} {us : List Value}, StrsAre us ys → Vals (ys.map V.str) us
  | _, _, .nil => .nil
  | _, _, .cons y k t => .cons ⟨k, rfl⟩ (vals_are t)
theorem met_nd {ys : List Str} (h : ys.Nodup) : met ys = ys := by
  have gen : ∀ (zs us : List Str), (us ++ zs).Nodup → zs.foldl (fun us x => if x ∈ us then us else us ++ [x]) us = us ++ zs := by
    intro zs
    induction zs with
    | nil => intro us _; simp
    | cons z zs ih =>
      intro us hn
      have nz : z ∉ us := fun hz => by
        rw [List.nodup_append] at hn
        exact hn.2.2 z hz z List.mem_cons_self rfl
      rw [List.foldl_cons, if_neg nz, ih (us ++ [z]) (by rw [List.append_assoc]; exact hn), List.append_assoc]
      rfl
  have := gen ys [] (by simpa using h)
  simpa [met] using this
def tLenSetS (K : PySem.W.Frag) (ta : TE) : TE := fun σ H Q => ta σ H fun x H1 => ∃ (l : Addr) (xs : List Str), x = .ref l ∧ SqL K H1 l (xs.map V.str) ∧ xs.Nodup ∧ xs.length ≤ 4000 ∧ Q (.int (xs.length : Nat)) H1
theorem pe_lenSetS {X : Cx} {a : Expr} {ta : TE} {p p2 q pos : Pos} (hg : Gl X "len") (hm : X.mg "len" = none) (hg2 : Gl X "set") (hm2 : X.mg "set" = none) (ha : PE X a ta) (hc : X.calm = true := by rfl)
    (na : starEach [a] X.env = (false, eval a X.env) :: starEach [] X.env := by rfl) : PE X (.Call (.Name "len" p) [.Call (.Name "set" p2) [a] [] q] [] pos) (tLenSetS X.K ta) := by
  refine ⟨fun pins s σ H Q I h => ?_⟩
  refine Call_ (ld_blt I hg hm boot_len ?_)
  refine PyProof.Rows.callWith_builtin1 (PyProof.Rows.args_cons ?_ rfl) rfl rfl
  refine Call_ (ld_blt I hg2 hm2 boot_set ?_)
  refine PyProof.Rows.callWith_type1 (PyProof.Rows.args_cons (thn (ha.run pins s σ H _ I h) fun v s1 ⟨x, H1, I1, r1, q1⟩ => PyProof.Rows.args_nil ?_) na) na rfl
  obtain ⟨l, xs, rfl, hq, hn, hl, q1⟩ := q1
  cases r1
  obtain ⟨its, r, pl, hz⟩ := I1.list hq
  refine tx_call xs (I1.ok.hd hc) pl.isList (by simpa using strs_are r) (by unfold scanBound; omega) fun h' tk hS hk => ?_
  refine PyProof.Rows.args_nil ?_
  rw [met_nd hn] at hS
  obtain ⟨o, es, ep, t, ⟨c1, c2, c3⟩, ⟨g, pm0, nd⟩, ⟨b0, f0⟩, _⟩ := hS
  have sz : es.size = xs.length := by
    rw [← Array.length_toList, ← List.length_map (f := txOf), pm0.length_eq]
  have I2 : Inv X pins σ H1 { s1 with heap := h', toks := tk } := I1.kept hk
  exact call_len_set c1 c2 c3 f0 (by rw [sz]; omega) ⟨.int xs.length, H1, I2.tok _, ⟨_, by rw [sz]⟩, q1⟩
def tSortedSet (K : PySem.W.Frag) (ta : TE) : TE := fun σ H Q => ta σ H fun x H1 => ∃ (l : Addr) (xs : List Str), x = .ref l ∧ SqL K H1 l (xs.map V.str) ∧ xs.length ≤ 1000 ∧ (∃ L : List Str, L.length < 64 ∧ ∀ z ∈ xs, z ∈ L) ∧
  ∀ (ys : List Str) (p : Addr), (∀ z, z ∈ ys ↔ z ∈ xs) → ys.Nodup → H1 p = none → Q (.ref p) (upd H1 p (.lst (ys.map V.str)))
theorem nd_le {α : Type} [DecidableEq α] : ∀ {s u : List α}, s.Nodup → (∀ x ∈ s, x ∈ u) → s.length ≤ u.length
  | [], _, _, _ => Nat.zero_le _
  | x :: s, u, h, sub => by
    rw [List.nodup_cons] at h
    have hx := sub x List.mem_cons_self
    have h1 := nd_le (u := u.erase x) h.2 fun y hy => (List.mem_erase_of_ne (fun (e : y = x) => h.1 (e ▸ hy))).mpr (sub y (List.mem_cons_of_mem _ hy))
    rw [List.length_erase_of_mem hx] at h1
    have := List.length_pos_of_mem hx
    rw [List.length_cons]
    omega
theorem pe_sortedSet {X : Cx} {a : Expr} {ta : TE} {p p2 q pos : Pos} (hg : Gl X "sorted") (hm : X.mg "sorted" = none) (hg2 : Gl X "set") (hm2 : X.mg "set" = none) (ha : PE X a ta) (hc : X.calm = true := by rfl)
    (na : starEach [a] X.env = (false, eval a X.env) :: starEach [] X.env := by rfl) : PE X (.Call (.Name "sorted" p) [.Call (.Name "set" p2) [a] [] q] [] pos) (tSortedSet X.K ta) := by
  refine ⟨fun pins s σ H Q I h => ?_⟩
  refine Call_ (ld_blt I hg hm (show bootBuiltins (Str.ofString "sorted") = some (.builtin "sorted") by decide +kernel) ?_)
  refine PyProof.Rows.callWith_builtin1 (PyProof.Rows.args_cons ?_ rfl) rfl rfl
  refine Call_ (ld_blt I hg2 hm2 boot_set ?_)
  refine PyProof.Rows.callWith_type1 (PyProof.Rows.args_cons (thn (ha.run pins s σ H _ I h) fun v s1 ⟨x, H1, I1, r1, q1⟩ => PyProof.Rows.args_nil ?_) na) na rfl
  obtain ⟨l, xs, rfl, hq, hl, ⟨L, hL, hsub⟩, q1⟩ := q1
  cases r1
  obtain ⟨its, r, pl, hz⟩ := I1.list hq
  refine tx_call xs (I1.ok.hd hc) pl.isList (by simpa using strs_are r) (by unfold scanBound; omega) fun h' tk hS hk => ?_
  refine PyProof.Rows.args_nil ?_
  have I2 : Inv X pins σ H1 { s1 with heap := h', toks := tk } := I1.kept hk
  have nd : (met xs).Nodup := by
    obtain ⟨_, _, _, _, _, ⟨_, _, nd⟩, _⟩ := hS
    exact nd
  have l64 : (met xs).length < 64 := Nat.lt_of_le_of_lt (nd_le nd fun z hz => hsub z ((met_mem xs z).mp hz)) hL
  refine tx_sorted (s := { s1 with heap := h', toks := tk }) hS (I1.ok.hd hc) l64 fun s' p' out c ys k g o hp hat hS2 pm => ?_
  have hlen : (ys.map V.str).length ≤ sizeLine := by
    rw [List.length_map, pm.length_eq, sizeLine_eq]; omega
  have fr : H1 p' = none := I2.hok.fresh hp
  have J : Inv X pins σ (upd H1 p' (.lst (ys.map V.str))) { { s1 with heap := h', toks := tk } with heap := s'.heap, gens := s'.gens, drawn := s'.drawn, toks := s'.toks } :=
    I2.call (ch := []) (Un.laid k hp fr) (I2.hok.laid k hp ⟨hlen, out.toList, c, vals_are hS2, hat⟩) (by rw [g]; exact I2.bare) (fun _ z => nomatch z)
  have es : s' = { { s1 with heap := h', toks := tk } with heap := s'.heap, gens := s'.gens, drawn := s'.drawn, toks := s'.toks } := by
    cases s'
    cases s1
    cases o
    rfl
  rw [es]
  exact ⟨.ref p', _, J, rfl, q1 ys p' (fun z => (pm.mem_iff).trans (met_mem xs z)) (pm.nodup_iff.mpr nd) fr⟩
end Mu
/-! sum(lists, list). -/
namespace Mu
open PySem PySem.Spec PyProof.Rows L2
theorem args_sum_two (a b : Value) : argsOk "sum" ⟨[a, b], []⟩ := by unfold argsOk; kernel_rfl
abbrev LAt (h : Heap) (a : Addr) (us : List Value) : Prop := ∃ n, h.get? a = some { cls := .type "list", dict := none, data := .seq us.toArray n, slots := #[] }
section
variable {prog : Program} {w : World} {A : Around} {E : Value → Shared → Prop} {R : Result → Shared → Prop} {I : Addr} {fp wr : List Addr} {G : Array GenState → Array GenState → Prop} {n : Nat} {Pv : Nat → Value → Prop} {St : Nat → Shared → Prop}
/-- what the loop leaves: the start itself, or a new list -/
abbrev SumEnd (s s' : Shared) (b t : Addr) (us : List Value) (i n : Nat) (S : Addr) : Prop := LAt s'.heap t us ∧ ((i = n ∧ t = b) ∨ S < t)
theorem mu_sum_loop (W : WalksS prog w A.in1 I fp wr G n Pv St) (S : Addr) (nS : S ∉ fp) (ls : List Addr) (its : List (List Value)) (hn : n = ls.length) (hL : ls.length = its.length) (hv : ∀ i v, Pv i v → ∃ l, ls[i]? = some l ∧ v = .ref l) (nl : ∀ l ∈ ls, l ∉ S :: wr)
    (sz : ∀ (s : Shared) (i : Nat), St i s → ∀ b ∈ fp, b < s.heap.objs.size) :
    ∀ (k i : Nat) (s : Shared) (tot : Addr) (cur : List Value) (c : Nat), n - i = k → i ≤ n → St i s → s.heap.get? S = some { cls := .type "list", dict := none, data := .seq #[.ref tot] c, slots := #[] } → LAt s.heap tot cur → tot ∉ S :: wr →
      (∀ (j : Nat) (l : Addr) (us : List Value), ls[j]? = some l → its[j]? = some us → LAt s.heap l us) → cur.length + (its.drop i).flatten.length ≤ 100000 →
      (∀ (s' : Shared) (t : Addr), Moved (S :: wr) G s s' → SumEnd s s' tot t (cur ++ (its.drop i).flatten) i n S → R (.ok (.ret (.ref t))) s') →
      codeAny (model prog w) A (.builtin "sum.loop" ⟨[.ref I, .ref S, rawInt 2, rawInt 0], []⟩) R s := by
  have nW : S ∉ wr := fun h => nS (W.sub _ h)
  have sub : ∀ b ∈ wr, b ∈ S :: wr := fun b hb => List.mem_cons_of_mem _ hb
  intro k
  induction k with
  | zero =>
    intro i s tot cur c hk hi hst hS hT nt hA hb hR
    obtain rfl : i = n := by omega
    refine codeAny_builtin F.entry_sum_loop ?_
    rw [Around.under_plainId F.plain_sum_loop _]
    show wpAny _ A.in1 (seqItems? (.ref S) >>= _) _ _ s
    refine wpAny_bind (wpAny_seqItems hS rfl ?_)
    show wpAny _ A.in1 (tryCatch (pyNext (.ref I)) _ >>= _) _ _ s
    refine wpAny_bind (wpAny_tryCatch (W.done s _ _ hst fun s' hm => ?_))
    have e : its.drop i = [] := List.drop_eq_nil_of_le (by omega)
    obtain ⟨m, hT⟩ := hT
    refine wpAny_pure (hR s' tot (hm.mono sub) ⟨⟨m, ?_⟩, .inl ⟨rfl, rfl⟩⟩)
    rw [e, List.flatten_nil, List.append_nil]
    exact hm.heap tot _ (fun z => nt (sub _ z)) hT
  | succ k ih =>
    intro i s tot cur c hk hi hst hS hT nt hA hb hR
    have lt : i < n := by omega
    refine codeAny_builtin F.entry_sum_loop ?_
    rw [Around.under_plainId F.plain_sum_loop _]
    show wpAny _ A.in1 (seqItems? (.ref S) >>= _) _ _ s
    refine wpAny_bind (wpAny_seqItems hS rfl ?_)
    show wpAny _ A.in1 (tryCatch (pyNext (.ref I)) _ >>= _) _ _ s
    refine wpAny_bind (wpAny_tryCatch (W.item i s _ _ lt hst fun v s' hP hst' hm => ?_))
    obtain ⟨l, hl, rfl⟩ := hv i v hP
    have li : i < its.length := by omega
    have hus : its[i]? = some its[i] := List.getElem?_eq_getElem li
    have hl' := nl l (List.mem_of_getElem? hl)
    obtain ⟨m1, hT⟩ := hT
    obtain ⟨m2, hU⟩ := hA i l its[i] hl hus
    have gT := hm.heap tot _ (fun z => nt (sub _ z)) hT
    have gU := hm.heap l _ (fun z => hl' (sub _ z)) hU
    have gS := hm.heap S _ nW hS
    have dr : its.drop i = its[i] :: its.drop (i + 1) := (List.getElem_cons_drop ..).symm
    rw [dr, List.flatten_cons, List.length_append] at hb
    show wpAny _ A.in1 ((holding [Value.ref l] (binaryOp .Add (.ref tot) (.ref l))).attempt >>= _) _ _ _
    refine wpAny_bind (wpAny_attempt (wpAny_holding (PySem.P.add_list gT gU ?_ (by rw [List.size_toArray, List.size_toArray, sizeLine_eq]; omega))))
    show wpAny _ A.in1 (updateSeq S (fun _ => #[Value.ref s'.heap.objs.size]) >>= _) _ _ _
    have sS : S < s'.heap.objs.size := Heap.lt_size gS
    have gS1 : (s'.heap.push { cls := .type "list", data := .seq (cur.toArray ++ its[i].toArray) }).get? S = _ := Heap.get?_push_of_some _ gS
    refine wpAny_bind (wpAny_updateSeq gS1 rfl ?_)
    have gS2 := Heap.get?_update_self (Obj.mapSeq fun _ => #[Value.ref s'.heap.objs.size]) gS1 rfl
    refine wpAny_bind (wpAny_letGo ?_)
    have nf : s'.heap.objs.size ∉ fp := fun z => Nat.lt_irrefl _ (sz s' (i + 1) hst' _ z)
    have nt' : s'.heap.objs.size ∉ S :: wr := fun z => by
      rcases List.mem_cons.mp z with z | z
      · exact absurd z.symm (Nat.ne_of_lt sS)
      · exact nf (W.sub _ z)
    have old : ∀ b o, b ≠ S → s'.heap.get? b = some o → ((((s'.heap.push { cls := .type "list", data := .seq (cur.toArray ++ its[i].toArray) }).update S (Obj.mapSeq fun _ => #[Value.ref s'.heap.objs.size])).update S (Obj.mapSeq fun _ => #[Value.ref s'.heap.objs.size]))).get? b = some o := fun b o ne e =>
      (Heap.get?_update_other _ _ (fun z : S = b => ne z.symm)).trans ((Heap.get?_update_other _ _ (fun z : S = b => ne z.symm)).trans (Heap.get?_push_of_some _ e))
    have new : ((((s'.heap.push { cls := .type "list", data := .seq (cur.toArray ++ its[i].toArray) }).update S (Obj.mapSeq fun _ => #[Value.ref s'.heap.objs.size])).update S (Obj.mapSeq fun _ => #[Value.ref s'.heap.objs.size]))).get? s'.heap.objs.size = some { cls := .type "list", dict := none, data := .seq (cur ++ its[i]).toArray 0, slots := #[] } := by
      have ne : ¬ S = s'.heap.objs.size := Nat.ne_of_lt sS
      refine (Heap.get?_update_other _ _ ne).trans ((Heap.get?_update_other _ _ ne).trans ?_)
      refine (Heap.get?_push_size _ rfl).trans ?_
      rw [show cur.toArray ++ its[i].toArray = (cur ++ its[i]).toArray by simp]
    refine wpAny_bind (wpAny_updateSeq gS2 rfl (wpAny_pure ⟨plainId_quiet F.plain_sum_loop _, ih (i + 1) _ s'.heap.objs.size (cur ++ its[i]) _ (by omega) lt (W.frame _ s' _ _ hst' (Nat.le_refl _) fun b hb' o e => old b o (fun z => nS (z ▸ hb')) e) (Heap.get?_update_self _ gS2 rfl) ⟨0, new⟩ nt' (fun j q us hj hu => ?_) ?_ fun s'' t hm'' he => ?_⟩))
    · obtain ⟨m, g⟩ := hA j q us hj hu
      have nq := nl q (List.mem_of_getElem? hj)
      exact ⟨m, old q _ (fun z => nq (z ▸ List.mem_cons_self)) (hm.heap q _ (fun z => nq (sub _ z)) g)⟩
    · rw [List.length_append]; omega
    · refine hR s'' t (Moved.trans W.gtrans ((hm.mono sub).then_heap (Nat.le_refl _) fun b o hb' e => old b o (fun z => hb' (z ▸ List.mem_cons_self)) e) hm'') ⟨?_, .inr ?_⟩
      · rw [dr, List.flatten_cons, ← List.append_assoc]
        exact he.1
      · rcases he.2 with ⟨_, rfl⟩ | h1
        · exact sS
        · exact h1
end
section
variable {P : Program} {w : World} {A : Around} {E : Value → Shared → Prop} {s : Shared}
theorem mu_sum_call {a b : Addr} {items : Array Value} {ls : List Addr} {its : List (List Value)} {st : List Value} {Q : Value → Shared → Prop} (hh : A.handled = none) (hl : s.heap.IsList a items) (hi : items.toList = ls.map Value.ref) (hL : ls.length = its.length)
    (hb : LAt s.heap b st) (hA : ∀ (j : Nat) (l : Addr) (us : List Value), ls[j]? = some l → its[j]? = some us → LAt s.heap l us) (hz : st.length + its.flatten.length ≤ 100000)
    (h : ∀ (h' : Heap) (tk : Nat) (t : Addr), (∀ c o, s.heap.get? c = some o → h'.get? c = some o) → LAt h' t (st ++ its.flatten) → ((its = [] ∧ t = b) ∨ s.heap.objs.size ≤ t) → Q (.ref t) { s with heap := h', toks := tk }) :
    wpAny (model P w) A (call (.builtin "sum") [.ref a, .ref b]) Q E s := by
  refine call_function_tree F.kind_sum F.plain_sum F.entry_sum (args_sum_two _ _) ?_
  unfold Builtin.«sum»
  simp only [List.length_cons, List.length_nil]
  rw [if_neg (by decide)]
  refine wpAny_bind (wpAny_of_eq (show Builtin.Builtins.bindParams "sum" ["start"] 0 ⟨[.ref b], []⟩ = pure [some (.ref b)] from rfl) ?_)
  refine wpAny_bind (wpAny_pyIter_list hl ?_)
  refine wpAny_bind (wpAny_pure ?_)
  obtain ⟨mb, gb⟩ := hb
  have la : a < s.heap.objs.size := by
    obtain ⟨o, e, _⟩ := hl
    exact Heap.lt_size e
  have ty : ∀ x : Obj, Shared.TypeIs { s with heap := s.heap.push x } (.ref b) "list" := fun x => ⟨_, Heap.get?_push_of_some _ gb, rfl⟩
  simp only [List.forIn_cons, List.forIn_nil]
  refine wpAny_bind (wpAny_bind (wpAny_bind (wpAny_isInstance (T := "list") (b := false) (ty _) PySem.F.sub_list_str ?_)))
  simp only [Bool.false_eq_true, if_false]
  refine wpAny_pure (wpAny_bind (wpAny_bind (wpAny_isInstance (T := "list") (b := false) (ty _) PySem.F.sub_list_bytes ?_)))
  simp only [Bool.false_eq_true, if_false]
  refine wpAny_pure (wpAny_bind (wpAny_bind (wpAny_isInstance (T := "list") (b := false) (ty _) PySem.F.sub_list_bytearray ?_)))
  simp only [Bool.false_eq_true, if_false]
  refine wpAny_pure (wpAny_pure ?_)
  refine wpAny_bind (wpAny_newObj_type ?_)
  have i1 : items.size = ls.length := by
    rw [← Array.length_toList, hi, List.length_map]
  have fa : a ∉ [s.heap.objs.size] := by
    rw [List.mem_singleton]; exact Nat.ne_of_lt la
  have bl : b < s.heap.objs.size := Heap.lt_size gb
  have zp : ∀ x : Obj, (s.heap.push x).objs.size = s.heap.objs.size + 1 := fun x => Heap.size_push ..
  have h3 : A.in1.in1.handled = none := by simp [hh]
  have h4 : A.in1.handled = none := by simp [hh]
  have lx : ∀ l ∈ ls, l < s.heap.objs.size := fun l hm => by
    obtain ⟨j, hj⟩ := List.mem_iff_getElem?.mp hm
    have hj2 : j < its.length := by
      rw [← hL]; exact (List.getElem?_eq_some_iff.mp hj).1
    obtain ⟨m, g⟩ := hA j l its[j] hj (List.getElem?_eq_getElem hj2)
    exact Heap.lt_size g
  have hv : ∀ (i : Nat) (v : Value), items[i]? = some v → ∃ l, ls[i]? = some l ∧ v = .ref l := fun i v e => by
    rw [← Array.getElem?_toList, hi, List.getElem?_map] at e
    cases q : ls[i]? with
    | none => rw [q] at e; cases e
    | some l =>
      rw [q] at e
      cases e
      exact ⟨l, rfl, rfl⟩
  generalize hI : s.heap.objs.size = I0 at la bl lx zp fa
  have nI : a ≠ I0 := Nat.ne_of_lt la
  let o1 : Obj := { cls := Value.type "list_iterator", data := Data.fields #[Value.ref a, Value.int 0 0] }
  have gI : (s.heap.push o1).get? I0 = some o1 := by
    rw [← hI]; exact Heap.get?_push_size _ rfl
  have gS : ((s.heap.push o1).push { cls := Value.type "list", data := Data.seq #[Value.ref b] }).get? (I0 + 1) = some { cls := .type "list", dict := none, data := .seq #[.ref b] 0, slots := #[] } := by
    rw [← zp o1]; exact Heap.get?_push_size _ rfl
  have kp : ∀ c o, s.heap.get? c = some o → ((s.heap.push o1).push { cls := Value.type "list", data := Data.seq #[Value.ref b] }).get? c = some o := fun c o e => Heap.get?_push_of_some _ (Heap.get?_push_of_some _ e)
  have W := (Walks.list (prog := P) (w := w) h4 I0 a nI items).toS
  refine wpAny_pure ⟨plainId_quiet F.plain_sum_loop _, ?_⟩
  show codeAny (model P w) A (.builtin "sum.loop" ⟨[.ref I0, .ref (s.heap.push o1).objs.size, rawInt 2, rawInt 0], []⟩) _ _
  rw [zp o1]
  refine mu_sum_loop W (I0 + 1) (fun z => ?_) ls its i1 hL hv (fun l hm z => ?_) (fun s1 i st c hc => ?_) (items.size - 0) 0 _ b st 0 rfl (Nat.zero_le _) ⟨⟨_, Heap.get?_push_of_some _ gI, rfl, rfl⟩, (hl.push _).push _⟩ gS ⟨mb, kp b _ gb⟩ (fun z => ?_) (fun j l us hj hu => ?_) (by rw [List.drop_zero]; exact hz) fun s' t hm he => ?_
  · rcases List.mem_cons.mp z with z | z
    · exact absurd z (Nat.succ_ne_self _)
    · rw [List.mem_singleton] at z
      exact absurd z.symm (Nat.ne_of_lt (Nat.lt_succ_of_lt la))
  · have := lx l hm
    rcases List.mem_cons.mp z with z | z
    · exact absurd z (Nat.ne_of_lt (Nat.lt_succ_of_lt this))
    · rw [List.mem_singleton] at z
      exact absurd z (Nat.ne_of_lt this)
  · rcases List.mem_cons.mp hc with z | z
    · obtain ⟨o, e, _⟩ := st.1
      rw [z]; exact Heap.lt_size e
    · rw [List.mem_singleton] at z
      obtain ⟨o, e, _⟩ := st.2
      rw [z]; exact Heap.lt_size e
  · rcases List.mem_cons.mp z with z | z
    · exact absurd z (Nat.ne_of_lt (Nat.lt_succ_of_lt bl))
    · rw [List.mem_singleton] at z
      exact absurd z (Nat.ne_of_lt bl)
  · obtain ⟨m, g⟩ := hA j l us hj hu
    exact ⟨m, kp l _ g⟩
  · obtain ⟨h', g2, d', tk', os'⟩ := s'
    have eg : g2 = s.gens := hm.gens
    have ed : d' = s.drawn := hm.drawn
    have eo : os' = s.os := hm.os
    subst eg ed eo
    have kk : ∀ c o, s.heap.get? c = some o → h'.get? c = some o := fun c o e => by
      have lc := Heap.lt_size e
      rw [hI] at lc
      refine hm.heap c o (fun z => ?_) (kp c o e)
      rcases List.mem_cons.mp z with z | z
      · exact absurd z (Nat.ne_of_lt (Nat.lt_succ_of_lt lc))
      · rw [List.mem_singleton] at z
        exact absurd z (Nat.ne_of_lt lc)
    rw [List.drop_zero] at he
    refine h h' tk' t kk he.1 ?_
    rcases he.2 with ⟨e0, rfl⟩ | e0
    · refine .inl ⟨List.eq_nil_of_length_eq_zero ?_, rfl⟩
      rw [← hL, ← i1]; exact e0.symm
    · right
      rw [hI]
      exact Nat.le_of_lt (Nat.lt_of_succ_lt e0)
end
end Mu
/-! Rules that the layer lacks. -/
namespace Mu
open PySem PySem.Spec PyProof.Rows L2
theorem mk_M2 {X : Cx} {o : Expr} {m : Str} {apos : Pos} {e f : Expr} {cpos : Pos} (h1 : attributeBase o m X.env (eval o X.env) = eval o X.env)
  (h2 : ((backTo cpos (starEach [e, f] X.env)).all (fun x => !x.1) && (backToKw cpos (keywordEach [] X.env)).all (fun x => x.1.isSome) && decide (([e, f] : List Expr).length + ([] : List Keyword).length + (if ([] : List Keyword).isEmpty then 0 else 1) < 30)) = true)
  (h3 : (apos.endLine == cpos.line) = true) (h4 : backTo cpos (starEach [e, f] X.env) = [(false, eval e X.env), (false, eval f X.env)] := by rfl) : M2 X o m apos e f cpos := ⟨h1, h2, h3, h4⟩
def rRemS : V → List V → Hp → VK → Prop := fun x vs H Q => ∃ (l : Addr) (xs : List Str) (z : Str), x = .ref l ∧ vs = [.str z] ∧ H l = some (.lst (xs.map V.str)) ∧ z ∈ xs ∧ Q .non (upd H l (.lst ((xs.erase z).map V.str)))
theorem erase_ix {α : Type} [DecidableEq α] {xs : List α} {z : α} (h : z ∈ xs) : ∃ j, xs[j]? = some z ∧ (∀ m, m < j → xs[m]? ≠ some z) ∧ xs.erase z = xs.eraseIdx j := by
  induction xs with
  | nil => cases h
  | cons y xs ih =>
    by_cases e : y = z
    · subst e
      exact ⟨0, rfl, fun m hm => absurd hm (Nat.not_lt_zero m), by rw [List.erase_cons_head]; rfl⟩
    · have h2 : z ∈ xs := (List.mem_cons.mp h).elim (fun q => absurd q.symm e) id
      obtain ⟨j, h3, h4, h5⟩ := ih h2
      refine ⟨j + 1, by simpa using h3, fun m hm => ?_, ?_⟩
      · cases m with
        | zero => intro q; exact e (by simpa using q)
        | succ m => intro q; exact h4 m (by omega) (by simpa using q)
      · rw [List.erase_cons_tail (by simpa using e), h5]
        rfl
theorem vstr_at : ∀ {ys : List Str} {us : List Value}, Vals (ys.map V.str) us → ∀ (m : Nat) (y : Str), ys[m]? = some y → ∃ t, us[m]? = some (.str y t)
  | [], _, _, m, y, h => by simp at h
  | x :: ys, _, .cons r1 r2, 0, y, h => by
    obtain ⟨t, rfl⟩ := r1
    simp at h
    subst h
    exact ⟨t, rfl⟩
  | x :: ys, _, .cons r1 r2, m + 1, y, h => by
    obtain ⟨t, e⟩ := vstr_at r2 m y (by simpa using h)
    exact ⟨t, by simpa using e⟩
theorem er_map : ∀ (ys : List Str) (j : Nat), (ys.map V.str).eraseIdx j = (ys.eraseIdx j).map V.str
  | [], j => by
    simp
  | y :: ys, 0 => rfl
  | y :: ys, j + 1 => congrArg (V.str y :: ·) (er_map ys j)
theorem mt_removeS {X : Cx} : MtR X "list.remove" rRemS := by
  intro pins s σ H x xs v us Q I rx rxs h
  obtain ⟨l, ys, z, rfl, rfl, hH, hz, q⟩ := h
  cases rx
  obtain ⟨u, rfl, ru⟩ := rxs.one
  obtain ⟨t, rfl⟩ := ru
  obtain ⟨j, hj, hno, he⟩ := erase_ix hz
  obtain ⟨sz, its, n, r, hl, e⟩ := I.lstM hH
  have hjn : j < ys.length := (List.getElem?_eq_some_iff.mp hj).1
  rw [List.length_map] at hl sz
  have hjl : j < its.toArray.size := by
    rw [List.size_toArray]; omega
  have at' : ∀ m (hm : m < its.toArray.size), ∃ y t', ys[m]? = some y ∧ its.toArray[m] = Value.str y t' := fun m hm => by
    rw [List.size_toArray] at hm
    have hm2 : m < ys.length := by omega
    obtain ⟨t', hw⟩ := vstr_at r m ys[m] (List.getElem?_eq_getElem hm2)
    obtain ⟨_, g2⟩ := List.getElem?_eq_some_iff.mp hw
    exact ⟨ys[m], t', List.getElem?_eq_getElem hm2, by simpa using g2⟩
  let eq' : Value → Bool := fun y => match y with
    | .str a _ => a == z
    | _ => false
  refine call_meets PySem.F.slot_list_remove ⟨_, e, rfl⟩ PySem.F.entry_list_remove (PySem.F.args_list_remove_2 _ _)
    (SeqAt.list_removeAt l its.toArray n none #[] (.str z t) eq' j hjl ?_ ?_ (by rw [List.size_toArray]; omega)) ⟨e, ?_, ?_⟩
  · obtain ⟨y, t', h1, h2⟩ := at' j hjl
    rw [hj] at h1
    cases h1
    rw [h2]
    exact beq_self_eq_true z
  · intro m hm hmj
    obtain ⟨y, t', h1, h2⟩ := at' m hm
    rw [h2]
    exact beq_eq_false_iff_ne.mpr fun e2 => hno m hmj (e2 ▸ h1)
  · intro y hy
    obtain ⟨m, hm, rfl⟩ := Array.mem_iff_getElem.mp hy
    obtain ⟨y, t', h1, h2⟩ := at' m hm
    rw [h2]
    exact SeqAt.EqAt.str_str y t' z t
  · have rr := r.eraseIdx j
    rw [er_map, ← he] at rr
    refine ⟨.non, _, I.lset (its' := its.eraseIdx j) (t' := s.toks) hH e ?_ rr ?_, rfl, q⟩
    · show its.toArray.eraseIdxIfInBounds j = (its.eraseIdx j).toArray
      rw [List.eraseIdxIfInBounds_toArray]
    · have z2 := List.length_erase_le (a := z) (l := ys)
      rw [List.length_map]
      omega
/-- sum(lists, list) -/
def rSumL : List V → Hp → VK → Prop := fun xs H Q => ∃ (a b : Addr) (as : List Addr) (vss : List (List V)) (ws : List V), xs = [.ref a, .ref b] ∧ H a = some (.lst (as.map V.ref)) ∧ H b = some (.lst ws) ∧ Paired (fun c vs => H c = some (.lst vs)) as vss ∧ ws.length + vss.flatten.length ≤ 100000 ∧
  (vss = [] → Q (.ref b) H) ∧ ∀ p, H p = none → Q (.ref p) (upd H p (.lst (ws ++ vss.flatten)))
theorem ref_vals : ∀ {as : List Addr} {us : List Value}, Vals (as.map V.ref) us → us = as.map Value.ref
  | [], _, .nil => rfl
  | a :: as, _, .cons r t => by
    rw [ref_vals t]
    cases (show _ = Value.ref a from r)
    rfl
theorem vals_app : ∀ {xs ys : List V} {us ws : List Value}, Vals xs us → Vals ys ws → Vals (xs ++ ys) (us ++ ws)
  | _, _, _, _, .nil, s => s
  | _, _, _, _, .cons a t, s => .cons a (vals_app t s)
theorem its_of {X : Cx} {pins : List (Addr × Obj)} {σ : L2.St} {H : Hp} {s : Shared} (I : Inv X pins σ H s) : ∀ {as : List Addr} {vss : List (List V)}, Paired (fun c vs => H c = some (.lst vs)) as vss →
    ∃ its : List (List Value), as.length = its.length ∧ (∀ (j : Nat) (l : Addr) (us : List Value), as[j]? = some l → its[j]? = some us → LAt s.heap l us) ∧ Vals vss.flatten its.flatten ∧ (vss = [] ↔ its = [])
  | _, _, .nil => ⟨[], rfl, fun j l us h => by simp at h, .nil, by simp⟩
  | c :: as, vs :: vss, .cons h t => by
    obtain ⟨its, e1, e2, e3, _⟩ := its_of I t
    obtain ⟨z, us, n, r, hl, e⟩ := I.lstM h
    refine ⟨us :: its, by rw [List.length_cons, List.length_cons, e1], fun j l ws hj hu => ?_, ?_, by simp⟩
    · cases j with
      | zero =>
        simp at hj hu
        subst hj hu
        exact ⟨n, e⟩
      | succ j => exact e2 j l ws (by simpa using hj) (by simpa using hu)
    · rw [List.flatten_cons, List.flatten_cons]
      exact vals_app r e3
theorem cr_sumL {X : Cx} (hc : X.calm = true) : CallR X (.builtin "sum") rSumL := by
  intro pins s σ H vs us Q I r h
  obtain ⟨a, b, as, vss, ws, rfl, ha, hb, hp, hz, q1, q2⟩ := h
  cases r with
  | cons r1 r => cases r with
    | cons r2 r =>
      cases r
      cases r1
      cases r2
      obtain ⟨z, ia, na, ra, hla, ea⟩ := I.lstM ha
      obtain ⟨zb, ib, nb, rb, hlb, eb⟩ := I.lstM hb
      obtain ⟨its, e1, e2, e3, e4⟩ := its_of I hp
      have fl : its.flatten.length = vss.flatten.length := e3.length.symm
      refine mu_sum_call (ls := as) (its := its) (st := ib) (I.ok.hd hc) (items := ia.toArray) ⟨_, ea, rfl, na, rfl⟩ (by simpa using ref_vals ra) e1 ⟨nb, eb⟩ e2 (by rw [fl, ← hlb]; exact hz) fun h' tk t kp hat ht => ?_
      rcases ht with ⟨e0, rfl⟩ | sz
      · exact ⟨.ref _, H, I.kept kp, rfl, q1 (e4.mpr e0)⟩
      · obtain ⟨m, hat⟩ := hat
        have hlen : (ws ++ vss.flatten).length ≤ sizeLine := by
          rw [List.length_append, sizeLine_eq]; omega
        exact ⟨.ref t, upd H t (.lst (ws ++ vss.flatten)), I.laid (t' := tk) kp sz ⟨hlen, ib ++ its.flatten, m, vals_app rb e3, hat⟩, rfl, q2 t (I.hok.fresh sz)⟩
def rDictC : List V → Hp → VK → Prop := fun xs H Q => ∃ (a : Addr) (kvs : List (Key × V)), xs = [.ref a] ∧ H a = some (.dK kvs) ∧ ∀ p, H p = none → Q (.ref p) (upd H p (.dK kvs))
theorem call_dictC {X : Cx} : CallR X (.type "dict") rDictC := fun pins s σ H vs us Q I r ⟨a, kvs, e, h, q⟩ => call_dictD pins s σ H vs us Q I r ⟨a, kvs, e, .inl h, q⟩
end Mu
namespace Mu
open PySem PySem.Spec PyProof.Rows L2
def top (i : Nat) : Stmt := PySem.Challenge.pw_muchalike_k52_whole_papers_made_by_other.main.body.getD i (.Pass ⟨0, 0, 0, 0⟩)
abbrev s_divisor : Stmt := top 10
abbrev s_fraction : Stmt := top 11
abbrev s_is_less : Stmt := top 12
abbrev s_check_kind : Stmt := top 13
abbrev s_check_least : Stmt := top 14
abbrev s_share_of : Stmt := top 15
abbrev s_upward : Stmt := top 16
abbrev s_root_upward : Stmt := top 17
abbrev s_need : Stmt := top 18
abbrev s_mates : Stmt := top 19
abbrev s_are_mates : Stmt := top 20
abbrev s_least_need : Stmt := top 21
abbrev s_is_word : Stmt := top 24
abbrev s_check_sets : Stmt := top 25
abbrev s_check_weights : Stmt := top 26
abbrev s_check_lot : Stmt := top 27
abbrev s_weight : Stmt := top 28
abbrev s_common : Stmt := top 29
abbrev s_share_between : Stmt := top 30
abbrev s_plain_pairs : Stmt := top 31
abbrev s_check_order : Stmt := top 33
abbrev s_in_order : Stmt := top 34
abbrev s_rest : Stmt := top 35
abbrev s_beginning : Stmt := top 36
abbrev s_first_common : Stmt := top 37
abbrev s_check_parts : Stmt := top 39
abbrev s_agree : Stmt := top 40
abbrev s_room : Stmt := top 41
abbrev s_must_agree : Stmt := top 42
abbrev s_check_asked : Stmt := top 44
abbrev s_place_holds : Stmt := top 45
abbrev s_parts_hold : Stmt := top 46
abbrev s_begins_alike : Stmt := top 47
abbrev s_held_pairs : Stmt := top 48
abbrev s_alike_of : Stmt := top 49
abbrev s_with_common : Stmt := top 51
abbrev s_are_whole : Stmt := top 52
abbrev s_is_list_of : Stmt := top 53
abbrev s_is_text : Stmt := top 54
abbrev s_is_row : Stmt := top 55
abbrev s_is_pair : Stmt := top 56
abbrev s_are_ends : Stmt := top 57
abbrev s_held_by_ends : Stmt := top 58
abbrev s_is_order : Stmt := top 59
abbrev s_are_texts : Stmt := top 60
abbrev s_are_parts : Stmt := top 61
abbrev s_held_of : Stmt := top 62
abbrev s_shows_all : Stmt := top 63
abbrev s_law_cell_at : Stmt := top 65
abbrev s_law_mix : Stmt := top 66
abbrev s_law_turned_row : Stmt := top 67
abbrev s_law_names : Stmt := top 68
abbrev s_law_set : Stmt := top 69
abbrev s_law_lot : Stmt := top 70
abbrev s_law_weights : Stmt := top 71
abbrev s_law_kind : Stmt := top 72
abbrev s_law_least : Stmt := top 73
abbrev s_law_weight : Stmt := top 74
abbrev s_law_need : Stmt := top 75
abbrev s_law_are_mates : Stmt := top 76
abbrev s_law_least_need : Stmt := top 77
abbrev s_law_order : Stmt := top 78
abbrev s_law_in_order : Stmt := top 79
abbrev s_law_rest : Stmt := top 80
abbrev s_law_beginning : Stmt := top 81
abbrev s_law_parts : Stmt := top 82
abbrev s_law_common : Stmt := top 83
abbrev s_law_agreeing : Stmt := top 84
abbrev s_law_holds : Stmt := top 85
abbrev s_law_held : Stmt := top 86
abbrev s_law_ends : Stmt := top 87
abbrev s_law_by_ends : Stmt := top 88
abbrev s_law_rows : Stmt := top 89
abbrev s_law_shuffled : Stmt := top 90
abbrev s_law_paper : Stmt := top 91
abbrev s_law_wrong : Stmt := top 92
abbrev s_law_copy : Stmt := top 93
abbrev s_law_cut : Stmt := top 94
abbrev s_law : Stmt := top 95
end Mu
/-! the head -/
namespace Mu
open PySem PySem.Spec PyProof.Rows L2
def de_divisor : He.DefD := ⟨("divisor", none), "divisor", "divisor", defArgs (top 10), defBody (top 10), defScope (top 10), [], []⟩
def de_fraction : He.DefD := ⟨("fraction", none), "fraction", "fraction", defArgs (top 11), defBody (top 11), defScope (top 11), [], []⟩
def de_is_less : He.DefD := ⟨("is_less", none), "is_less", "is_less", defArgs (top 12), defBody (top 12), defScope (top 12), [], []⟩
def de_check_kind : He.DefD := ⟨("check_kind", none), "check_kind", "check_kind", defArgs (top 13), defBody (top 13), defScope (top 13), [], []⟩
def de_check_least : He.DefD := ⟨("check_least", none), "check_least", "check_least", defArgs (top 14), defBody (top 14), defScope (top 14), [], []⟩
def de_share_of : He.DefD := ⟨("share_of", none), "share_of", "share_of", defArgs (top 15), defBody (top 15), defScope (top 15), [], []⟩
def de_upward : He.DefD := ⟨("upward", none), "upward", "upward", defArgs (top 16), defBody (top 16), defScope (top 16), [], []⟩
def de_root_upward : He.DefD := ⟨("root_upward", none), "root_upward", "root_upward", defArgs (top 17), defBody (top 17), defScope (top 17), [], []⟩
def de_need : He.DefD := ⟨("need", none), "need", "need", defArgs (top 18), defBody (top 18), defScope (top 18), [], []⟩
def de_mates : He.DefD := ⟨("mates", none), "mates", "mates", defArgs (top 19), defBody (top 19), defScope (top 19), [], []⟩
def de_are_mates : He.DefD := ⟨("are_mates", none), "are_mates", "are_mates", defArgs (top 20), defBody (top 20), defScope (top 20), [], []⟩
def de_least_need : He.DefD := ⟨("least_need", none), "least_need", "least_need", defArgs (top 21), defBody (top 21), defScope (top 21), [], []⟩
def de_is_word : He.DefD := ⟨("is_word", none), "is_word", "is_word", defArgs (top 24), defBody (top 24), defScope (top 24), [], []⟩
def de_check_sets : He.DefD := ⟨("check_sets", none), "check_sets", "check_sets", defArgs (top 25), defBody (top 25), defScope (top 25), [], []⟩
def de_check_weights : He.DefD := ⟨("check_weights", none), "check_weights", "check_weights", defArgs (top 26), defBody (top 26), defScope (top 26), [], []⟩
def de_check_lot : He.DefD := ⟨("check_lot", none), "check_lot", "check_lot", defArgs (top 27), defBody (top 27), defScope (top 27), [], []⟩
def de_weight : He.DefD := ⟨("weight", none), "weight", "weight", defArgs (top 28), defBody (top 28), defScope (top 28), [], []⟩
def de_common : He.DefD := ⟨("common", none), "common", "common", defArgs (top 29), defBody (top 29), defScope (top 29), [], []⟩
def de_share_between : He.DefD := ⟨("share_between", none), "share_between", "share_between", defArgs (top 30), defBody (top 30), defScope (top 30), [], []⟩
def de_plain_pairs : He.DefD := ⟨("plain_pairs", none), "plain_pairs", "plain_pairs", defArgs (top 31), defBody (top 31), defScope (top 31), [], []⟩
def de_check_order : He.DefD := ⟨("check_order", none), "check_order", "check_order", defArgs (top 33), defBody (top 33), defScope (top 33), [], []⟩
def de_in_order : He.DefD := ⟨("in_order", none), "in_order", "in_order", defArgs (top 34), defBody (top 34), defScope (top 34), [], []⟩
def de_rest : He.DefD := ⟨("rest", none), "rest", "rest", defArgs (top 35), defBody (top 35), defScope (top 35), [], []⟩
def de_beginning : He.DefD := ⟨("beginning", none), "beginning", "beginning", defArgs (top 36), defBody (top 36), defScope (top 36), [], []⟩
def de_first_common : He.DefD := ⟨("first_common", none), "first_common", "first_common", defArgs (top 37), defBody (top 37), defScope (top 37), [], []⟩
def de_check_parts : He.DefD := ⟨("check_parts", none), "check_parts", "check_parts", defArgs (top 39), defBody (top 39), defScope (top 39), [], []⟩
def de_agree : He.DefD := ⟨("agree", none), "agree", "agree", defArgs (top 40), defBody (top 40), defScope (top 40), [], []⟩
def de_room : He.DefD := ⟨("room", none), "room", "room", defArgs (top 41), defBody (top 41), defScope (top 41), [], []⟩
def de_must_agree : He.DefD := ⟨("must_agree", none), "must_agree", "must_agree", defArgs (top 42), defBody (top 42), defScope (top 42), [], []⟩
def de_check_asked : He.DefD := ⟨("check_asked", none), "check_asked", "check_asked", defArgs (top 44), defBody (top 44), defScope (top 44), [], []⟩
def de_place_holds : He.DefD := ⟨("place_holds", none), "place_holds", "place_holds", defArgs (top 45), defBody (top 45), defScope (top 45), [], []⟩
def de_parts_hold : He.DefD := ⟨("parts_hold", none), "parts_hold", "parts_hold", defArgs (top 46), defBody (top 46), defScope (top 46), [], []⟩
def de_begins_alike : He.DefD := ⟨("begins_alike", none), "begins_alike", "begins_alike", defArgs (top 47), defBody (top 47), defScope (top 47), [], []⟩
def de_held_pairs : He.DefD := ⟨("held_pairs", none), "held_pairs", "held_pairs", defArgs (top 48), defBody (top 48), defScope (top 48), [], []⟩
def de_alike_of : He.DefD := ⟨("alike_of", none), "alike_of", "alike_of", defArgs (top 49), defBody (top 49), defScope (top 49), [], []⟩
def de_with_common : He.DefD := ⟨("with_common", none), "with_common", "with_common", defArgs (top 51), defBody (top 51), defScope (top 51), [], []⟩
def de_are_whole : He.DefD := ⟨("are_whole", none), "are_whole", "are_whole", defArgs (top 52), defBody (top 52), defScope (top 52), [], []⟩
def de_is_list_of : He.DefD := ⟨("is_list_of", none), "is_list_of", "is_list_of", defArgs (top 53), defBody (top 53), defScope (top 53), [], []⟩
def de_is_text : He.DefD := ⟨("is_text", none), "is_text", "is_text", defArgs (top 54), defBody (top 54), defScope (top 54), [], []⟩
def de_is_row : He.DefD := ⟨("is_row", none), "is_row", "is_row", defArgs (top 55), defBody (top 55), defScope (top 55), [], []⟩
def de_is_pair : He.DefD := ⟨("is_pair", none), "is_pair", "is_pair", defArgs (top 56), defBody (top 56), defScope (top 56), [], []⟩
def de_are_ends : He.DefD := ⟨("are_ends", none), "are_ends", "are_ends", defArgs (top 57), defBody (top 57), defScope (top 57), [], []⟩
def de_held_by_ends : He.DefD := ⟨("held_by_ends", none), "held_by_ends", "held_by_ends", defArgs (top 58), defBody (top 58), defScope (top 58), [], []⟩
def de_is_order : He.DefD := ⟨("is_order", none), "is_order", "is_order", defArgs (top 59), defBody (top 59), defScope (top 59), [], []⟩
def de_are_texts : He.DefD := ⟨("are_texts", none), "are_texts", "are_texts", defArgs (top 60), defBody (top 60), defScope (top 60), [], []⟩
def de_are_parts : He.DefD := ⟨("are_parts", none), "are_parts", "are_parts", defArgs (top 61), defBody (top 61), defScope (top 61), [], []⟩
def de_held_of : He.DefD := ⟨("held_of", none), "held_of", "held_of", defArgs (top 62), defBody (top 62), defScope (top 62), [], []⟩
def de_shows_all : He.DefD := ⟨("shows_all", none), "shows_all", "shows_all", defArgs (top 63), defBody (top 63), defScope (top 63), [], []⟩
def de_law_cell_at : He.DefD := ⟨("_law_cell_at", none), "_law_cell_at", "_law_cell_at", defArgs (top 65), defBody (top 65), defScope (top 65), [], []⟩
def de_law_mix : He.DefD := ⟨("_law_mix", none), "_law_mix", "_law_mix", defArgs (top 66), defBody (top 66), defScope (top 66), [], []⟩
def de_law_turned_row : He.DefD := ⟨("_law_turned_row", none), "_law_turned_row", "_law_turned_row", defArgs (top 67), defBody (top 67), defScope (top 67), [], []⟩
def de_law_names : He.DefD := ⟨("_law_names", none), "_law_names", "_law_names", defArgs (top 68), defBody (top 68), defScope (top 68), [], []⟩
def de_law_set : He.DefD := ⟨("_law_set", none), "_law_set", "_law_set", defArgs (top 69), defBody (top 69), defScope (top 69), [], []⟩
def de_law_lot : He.DefD := ⟨("_law_lot", none), "_law_lot", "_law_lot", defArgs (top 70), defBody (top 70), defScope (top 70), [], []⟩
def de_law_weights : He.DefD := ⟨("_law_weights", none), "_law_weights", "_law_weights", defArgs (top 71), defBody (top 71), defScope (top 71), [], []⟩
def de_law_kind : He.DefD := ⟨("_law_kind", none), "_law_kind", "_law_kind", defArgs (top 72), defBody (top 72), defScope (top 72), [], []⟩
def de_law_least : He.DefD := ⟨("_law_least", none), "_law_least", "_law_least", defArgs (top 73), defBody (top 73), defScope (top 73), [], []⟩
def de_law_weight : He.DefD := ⟨("_law_weight", none), "_law_weight", "_law_weight", defArgs (top 74), defBody (top 74), defScope (top 74), [], []⟩
def de_law_need : He.DefD := ⟨("_law_need", none), "_law_need", "_law_need", defArgs (top 75), defBody (top 75), defScope (top 75), [], []⟩
def de_law_are_mates : He.DefD := ⟨("_law_are_mates", none), "_law_are_mates", "_law_are_mates", defArgs (top 76), defBody (top 76), defScope (top 76), [], []⟩
def de_law_least_need : He.DefD := ⟨("_law_least_need", none), "_law_least_need", "_law_least_need", defArgs (top 77), defBody (top 77), defScope (top 77), [], []⟩
def de_law_order : He.DefD := ⟨("_law_order", none), "_law_order", "_law_order", defArgs (top 78), defBody (top 78), defScope (top 78), [], []⟩
def de_law_in_order : He.DefD := ⟨("_law_in_order", none), "_law_in_order", "_law_in_order", defArgs (top 79), defBody (top 79), defScope (top 79), [], []⟩
def de_law_rest : He.DefD := ⟨("_law_rest", none), "_law_rest", "_law_rest", defArgs (top 80), defBody (top 80), defScope (top 80), [], []⟩
def de_law_beginning : He.DefD := ⟨("_law_beginning", none), "_law_beginning", "_law_beginning", defArgs (top 81), defBody (top 81), defScope (top 81), [], []⟩
def de_law_parts : He.DefD := ⟨("_law_parts", none), "_law_parts", "_law_parts", defArgs (top 82), defBody (top 82), defScope (top 82), [], []⟩
def de_law_common : He.DefD := ⟨("_law_common", none), "_law_common", "_law_common", defArgs (top 83), defBody (top 83), defScope (top 83), [], []⟩
def de_law_agreeing : He.DefD := ⟨("_law_agreeing", none), "_law_agreeing", "_law_agreeing", defArgs (top 84), defBody (top 84), defScope (top 84), [], []⟩
def de_law_holds : He.DefD := ⟨("_law_holds", none), "_law_holds", "_law_holds", defArgs (top 85), defBody (top 85), defScope (top 85), [], []⟩
def de_law_held : He.DefD := ⟨("_law_held", none), "_law_held", "_law_held", defArgs (top 86), defBody (top 86), defScope (top 86), [], []⟩
def de_law_ends : He.DefD := ⟨("_law_ends", none), "_law_ends", "_law_ends", defArgs (top 87), defBody (top 87), defScope (top 87), [], []⟩
def de_law_by_ends : He.DefD := ⟨("_law_by_ends", none), "_law_by_ends", "_law_by_ends", defArgs (top 88), defBody (top 88), defScope (top 88), [], []⟩
def de_law_rows : He.DefD := ⟨("_law_rows", none), "_law_rows", "_law_rows", defArgs (top 89), defBody (top 89), defScope (top 89), [], []⟩
def de_law_shuffled : He.DefD := ⟨("_law_shuffled", none), "_law_shuffled", "_law_shuffled", defArgs (top 90), defBody (top 90), defScope (top 90), [], []⟩
def de_law_paper : He.DefD := ⟨("_law_paper", none), "_law_paper", "_law_paper", defArgs (top 91), defBody (top 91), defScope (top 91), [], []⟩
def de_law_wrong : He.DefD := ⟨("_law_wrong", none), "_law_wrong", "_law_wrong", defArgs (top 92), defBody (top 92), defScope (top 92), [], []⟩
def de_law_copy : He.DefD := ⟨("_law_copy", none), "_law_copy", "_law_copy", defArgs (top 93), defBody (top 93), defScope (top 93), [], []⟩
def de_law_cut : He.DefD := ⟨("_law_cut", none), "_law_cut", "_law_cut", defArgs (top 94), defBody (top 94), defScope (top 94), [], []⟩
def de_law : He.DefD := ⟨("law", none), "law", "law", defArgs (top 95), defBody (top 95), defScope (top 95), [], []⟩
def fnL : List He.DefD := [de_divisor, de_fraction, de_is_less, de_check_kind, de_check_least, de_share_of, de_upward, de_root_upward, de_need, de_mates, de_are_mates, de_least_need, de_is_word, de_check_sets, de_check_weights, de_check_lot, de_weight, de_common, de_share_between, de_plain_pairs, de_check_order, de_in_order, de_rest, de_beginning, de_first_common, de_check_parts, de_agree, de_room, de_must_agree, de_check_asked, de_place_holds, de_parts_hold, de_begins_alike, de_held_pairs, de_alike_of, de_with_common, de_are_whole, de_is_list_of, de_is_text, de_is_row, de_is_pair, de_are_ends, de_held_by_ends, de_is_order, de_are_texts, de_are_parts, de_held_of, de_shows_all, de_law_cell_at, de_law_mix, de_law_turned_row, de_law_names, de_law_set, de_law_lot, de_law_weights, de_law_kind, de_law_least, de_law_weight, de_law_need, de_law_are_mates, de_law_least_need, de_law_order, de_law_in_order, de_law_rest, de_law_beginning, de_law_parts, de_law_common, de_law_agreeing, de_law_holds, de_law_held, de_law_ends, de_law_by_ends, de_law_rows, de_law_shuffled, de_law_paper, de_law_wrong, de_law_copy, de_law_cut, de_law]
def faA : List He.Fa := [.glo "divisor", .glo "fraction", .glo "is_less", .glo "check_kind", .glo "check_least", .glo "share_of", .glo "upward", .glo "root_upward", .glo "need", .glo "mates", .glo "are_mates", .glo "least_need", .glo "is_word", .glo "check_sets", .glo "check_weights", .glo "check_lot", .glo "weight", .glo "common", .glo "share_between", .glo "plain_pairs", .glo "check_order", .glo "in_order", .glo "rest", .glo "beginning", .glo "first_common", .glo "check_parts", .glo "agree", .glo "room", .glo "must_agree", .glo "check_asked", .glo "place_holds", .glo "parts_hold", .glo "begins_alike", .glo "held_pairs", .glo "alike_of", .glo "with_common", .glo "are_whole", .glo "is_list_of", .glo "is_text", .glo "is_row"]
def faB : List He.Fa := [.glo "is_pair", .glo "are_ends", .glo "held_by_ends", .glo "is_order", .glo "are_texts", .glo "are_parts", .glo "held_of", .glo "shows_all", .glo "_law_cell_at", .glo "_law_mix", .glo "_law_turned_row", .glo "_law_names", .glo "_law_set", .glo "_law_lot", .glo "_law_weights", .glo "_law_kind", .glo "_law_least", .glo "_law_weight", .glo "_law_need", .glo "_law_are_mates", .glo "_law_least_need", .glo "_law_order", .glo "_law_in_order", .glo "_law_rest", .glo "_law_beginning", .glo "_law_parts", .glo "_law_common", .glo "_law_agreeing", .glo "_law_holds", .glo "_law_held", .glo "_law_ends", .glo "_law_by_ends", .glo "_law_rows", .glo "_law_shuffled", .glo "_law_paper", .glo "_law_wrong", .glo "_law_copy", .glo "_law_cut", .glo "law", .glo "NoOrder"]
def faC : List He.Fa := [.glo "NoParts", .glo "KINDS", .str "SIGNS" "abcdefghijklmnopqrstuvwxyz0123456789.", .free "len", .free "range", .free "sorted", .free "set", .free "sum", .free "all", .free "any", .free "enumerate", .free "zip", .free "isinstance", .free "min", .free "max", .free "int", .free "list", .free "dict", .free "tuple", .free "bool", .free "str"]
def faL : List He.Fa := faA ++ (faB ++ faC)
def looseA : List PySem.Str := ["LikeError", "NoKind", "NoShare", "NoSet", "NoWeight", "NoOrder", "NoParts", "KINDS", "divisor", "fraction", "is_less", "check_kind", "check_least", "share_of", "upward", "root_upward", "need", "mates", "are_mates", "least_need", "SIGNS", "is_word", "check_sets", "check_weights", "check_lot", "weight", "common", "share_between", "plain_pairs", "check_order"]
def looseB : List PySem.Str := ["in_order", "rest", "beginning", "first_common", "check_parts", "agree", "room", "must_agree", "check_asked", "place_holds", "parts_hold", "begins_alike", "held_pairs", "alike_of", "with_common", "are_whole", "is_list_of", "is_text", "is_row", "is_pair", "are_ends", "held_by_ends", "is_order", "are_texts", "are_parts", "held_of", "shows_all", "_law_cell_at", "_law_mix", "_law_turned_row"]
def looseC : List PySem.Str := ["_law_names", "_law_set", "_law_lot", "_law_weights", "_law_kind", "_law_least", "_law_weight", "_law_need", "_law_are_mates", "_law_least_need", "_law_order", "_law_in_order", "_law_rest", "_law_beginning", "_law_parts", "_law_common", "_law_agreeing", "_law_holds", "_law_held", "_law_ends", "_law_by_ends", "_law_rows", "_law_shuffled", "_law_paper", "_law_wrong", "_law_copy", "_law_cut"]
def looseL : List PySem.Str := looseA ++ (looseB ++ looseC)
def exK (K : PySem.W.Frag) : Bool := He.lstB K "KINDS" [.str "both", .str "mean", .str "greater", .str "lesser", .str "square"]
abbrev RowL : PySem.W.OpenRow := PySem.W.OpenLaw.row PySem.Challenge.rw_muchalike_k52_whole_papers_made_by_other
abbrev hkL : PySem.W.Hook := He.hookX 4 faL fnL [] [] exK
def obL (s : PySem.W.SharedT) : He.AlX := He.obsX 4 faL fnL [] [] exK (HandSHeadRun.getT s)
theorem obL_eq (s : PySem.W.SharedT) : obL s = hkL.obs s.abs := He.obsX_eq (HandSHeadRun.getT_eq s)
set_option maxHeartbeats 0 in
theorem runL (w : World) : HandSHeadRun.RunEq RowL (PySem.W.view RowL.prog [95]) hkL obL 20000 looseL w := by
  intro os
  kernel_rfl
end Mu
/-! The mathematics: what is reckoned. -/
namespace Mu
open PySem
abbrev signsZ : Str := "abcdefghijklmnopqrstuvwxyz0123456789."
abbrev kindsL : List Str := ["both", "mean", "greater", "lesser", "square"]
inductive Kd where | both | mean | greater | lesser | square
  deriving DecidableEq
def Kd.s : Kd → Str
  | .both => "both" | .mean => "mean" | .greater => "greater" | .lesser => "lesser" | .square => "square"
theorem kd_both {k : Kd} (h : decide (k.s = "both") = true) : k = .both := by cases k <;> first | rfl | exact absurd h (by decide)
theorem kd_mean {k : Kd} (h : decide (k.s = "mean") = true) : k = .mean := by cases k <;> first | rfl | exact absurd h (by decide)
theorem kd_greater {k : Kd} (h : decide (k.s = "greater") = true) : k = .greater := by cases k <;> first | rfl | exact absurd h (by decide)
theorem kd_lesser {k : Kd} (h : decide (k.s = "lesser") = true) : k = .lesser := by cases k <;> first | rfl | exact absurd h (by decide)
theorem kd_square {k : Kd} (h1 : decide (k.s = "both") = false) (h2 : decide (k.s = "mean") = false) (h3 : decide (k.s = "greater") = false) (h4 : decide (k.s = "lesser") = false) : k = .square := by
  cases k <;> first | rfl | exact absurd h1 (by decide) | exact absurd h2 (by decide) | exact absurd h3 (by decide) | exact absurd h4 (by decide)
/-- a least share -/
structure Lst (t b : Int) : Prop where
  h1 : 1 ≤ t
  h2 : t ≤ b
  h3 : b < 1000000000
  g : Int.gcd t b = 1
/-- a weight -/
def Wg (a : Int) : Prop := 0 ≤ a ∧ a < 1000000000000
def up (p q : Int) : Int := (p + q - 1) / q
theorem up_le {p q c : Int} (hq : 0 < q) : up p q ≤ c ↔ p ≤ c * q := by
  unfold up
  constructor
  · intro h
    have h1 : p + q - 1 < ((p + q - 1) / q + 1) * q := Int.lt_ediv_add_one_mul_self _ hq
    have h2 : ((p + q - 1) / q + 1) * q ≤ (c + 1) * q := Int.mul_le_mul_of_nonneg_right (by omega) (by omega)
    have h3 : (c + 1) * q = c * q + q := by rw [Int.add_mul, Int.one_mul]
    omega
  · intro h
    have h1 : (p + q - 1) / q < c + 1 := by
      refine Int.ediv_lt_of_lt_mul hq ?_
      rw [Int.add_mul, Int.one_mul]
      omega
    omega
theorem up_nonneg {p q : Int} (hp : 0 ≤ p) (hq : 0 < q) : 0 ≤ up p q := Int.ediv_nonneg (by omega) (by omega)
/-- the least whole number whose square is no less -/
structure IsRoot (n r : Int) : Prop where
  h0 : 0 ≤ r
  h1 : n ≤ r * r
  h2 : ∀ c : Int, 0 ≤ c → n ≤ c * c → r ≤ c
theorem IsRoot.uniq {n r r' : Int} (h : IsRoot n r) (h' : IsRoot n r') : r = r' := Int.le_antisymm (h.h2 _ h'.h0 h'.h1) (h'.h2 _ h.h0 h.h1)
theorem root_ex (n : Int) : ∃ r, IsRoot n r := by
  have hex : ∃ k : Nat, n ≤ (k : Int) * (k : Int) := ⟨n.toNat, by
    rcases Int.lt_or_le n 1 with h | h
    · have : (0 : Int) ≤ (n.toNat : Int) * (n.toNat : Int) := Int.mul_nonneg (by omega) (by omega)
      omega
    · have e : (n.toNat : Int) = n := by omega
      rw [e]
      have := Int.mul_le_mul_of_nonneg_left (a := 1) (b := n) (c := n) h (by omega)
      omega⟩
  have gen : ∀ k : Nat, n ≤ (k : Int) * (k : Int) → ∃ r, IsRoot n r := by
    intro k
    induction k with
    | zero => intro h; exact ⟨0, by decide, by simpa using h, fun c hc _ => hc⟩
    | succ k ih =>
      intro h
      by_cases h2 : n ≤ (k : Int) * (k : Int)
      · exact ih h2
      · refine ⟨((k + 1 : Nat) : Int), by omega, h, fun c hc hn => ?_⟩
        rcases Int.lt_or_le c ((k + 1 : Nat) : Int) with h3 | h3
        · exfalso
          apply h2
          have h4 : c ≤ (k : Int) := by omega
          have h5 : c * c ≤ (k : Int) * (k : Int) := Int.mul_le_mul h4 h4 hc (by omega)
          omega
        · exact h3
  obtain ⟨k, hk⟩ := hex
  exact gen k hk
noncomputable def rootUp (n : Int) : Int := (root_ex n).choose
theorem rootUp_is (n : Int) : IsRoot n (rootUp n) := (root_ex n).choose_spec
theorem rootUp_eq {n r : Int} (h : IsRoot n r) : rootUp n = r := (rootUp_is n).uniq h
/-- what two weights need in common -/
noncomputable def need (k : Kd) (t b a c : Int) : Int := match k with
  | .both => up (t * (a + c)) (t + b)
  | .mean => up (t * (a + c)) (2 * b)
  | .greater => up (t * max a c) b
  | .lesser => up (t * min a c) b
  | .square => rootUp (up (t * a * c) b)
def frac (x y : Int) : Int × Int := (x / (Int.gcd x y : Int), y / (Int.gcd x y : Int))
def shareK (k : Kd) (a b c : Int) : Int × Int := match k with
  | .both => frac c (a + b - c)
  | .mean => frac (2 * c) (a + b)
  | .greater => frac c (max a b)
  | .lesser => frac c (min a b)
  | .square => frac (c * c) (a * b)
def shareOf (k : Kd) (a b c : Int) : Int × Int := if a = 0 ∨ b = 0 then (0, 1) else shareK k a b c
/-- the least mate -/
def mateLow (k : Kd) (t b a : Int) : Int := match k with
  | .lesser => 1
  | .mean => up (t * a) (2 * b - t)
  | _ => up (t * a) b
noncomputable def areMates (k : Kd) (t b a c : Int) : Bool := decide (a > 0) && (decide (c > 0) && decide (need k t b a c ≤ min a c))
noncomputable def leastNeed (k : Kd) (t b a : Int) : Int := need k t b a (mateLow k t b a)
end Mu
/-! Shares. -/
namespace Mu
open PySem PySem.Spec PyProof.Rows L2
local macro_rules | `(tactic| walk_at "mu le") => `(tactic| (repeat (first | exact trivial | refine ⟨by first | exact Or.inr rfl | exact Or.inl rfl, ?_⟩)))
section
variable {P : Program} {w : World} {K : PySem.W.Frag} {mg : Str → Option Value} {base : Heap} {kA : Addr}
abbrev dK (k : Kd) : Dn := dS k.s
abbrev d2 (p : Int × Int) : Dn := dT [dI p.1, dI p.2]
def f_divisor := Fs (fun x : Int × Int => 0 ≤ x.1 ∧ 0 ≤ x.2) (fun x => [dI x.1, dI x.2]) (fun x => dI (Int.gcd x.1 x.2))
theorem gcd_step (a b : Int) (ha : 0 ≤ a) (hb : 0 < b) : Int.gcd b (a % b) = Int.gcd a b := by
  obtain ⟨m, rfl⟩ := Int.eq_ofNat_of_zero_le ha
  obtain ⟨n, rfl⟩ := Int.eq_ofNat_of_zero_le (by omega : 0 ≤ b)
  show Nat.gcd (Int.natAbs n) (Int.natAbs ((m : Int) % (n : Int))) = Nat.gcd (Int.natAbs m) (Int.natAbs n)
  rw [← Int.natCast_emod, Int.natAbs_natCast, Int.natAbs_natCast, Int.natAbs_natCast, Nat.gcd_comm m n, Nat.gcd_rec n m, Nat.gcd_comm]
/-- from nought on, below ten to the n -/
def Bt (n : Nat) (x : Int) : Prop := 0 ≤ x ∧ x < 10 ^ n
theorem Bt.mul {m n : Nat} {x y : Int} (h : Bt m x) (h' : Bt n y) : Bt (m + n) (x * y) := ⟨Int.mul_nonneg h.1 h'.1, by
  rw [Int.pow_add]
  exact Int.mul_lt_mul' (Int.le_of_lt h.2) h'.2 h'.1 (Int.lt_of_le_of_lt h.1 h.2)⟩
theorem pow_le' (m n : Nat) (h : m ≤ n) : (10 : Int) ^ m ≤ 10 ^ n := by
  have := Nat.pow_le_pow_right (n := 10) (by decide) h
  exact_mod_cast this
theorem Bt.le {m n : Nat} {x : Int} (h : Bt m x) (hl : m ≤ n) : Bt n x := ⟨h.1, Int.lt_of_lt_of_le h.2 (pow_le' m n hl)⟩
theorem Bt.abs {n : Nat} {x : Int} (h : Bt n x) : x.natAbs < 2 ^ (4 * n) := by
  have h1 : (10 : Nat) ^ n ≤ 2 ^ (4 * n) := by
    rw [Nat.pow_mul]
    exact Nat.pow_le_pow_left (by decide) n
  have h2 : (x.natAbs : Int) < ((10 ^ n : Nat) : Int) := by
    have := h.2
    have h0 := h.1
    rw [Int.natAbs_of_nonneg h0]
    exact_mod_cast this
  exact Nat.lt_of_lt_of_le (by exact_mod_cast h2) h1
theorem Bt.cm {m n : Nat} {x y : Int} (h : Bt m x) (h' : Bt n y) (hm : 0 < m ∧ m ≤ 1000 := by decide) (hn : 0 < n ∧ n ≤ 1000 := by decide) : CMulW x y := wide_mul h.abs h'.abs (by omega) (by omega) (by omega)
theorem Bt.cd {n : Nat} {y : Int} (h : Bt n y) (h0 : 0 < y) (hn : 0 < n ∧ n ≤ 1000 := by decide) : CDivW x y := wide_div h0 h.abs (by omega) (by omega)
theorem Wg.bt {a : Int} (h : Wg a) : Bt 12 a := ⟨h.1, by have := h.2; omega⟩
theorem Lst.bt {t b : Int} (h : Lst t b) : Bt 9 t ∧ Bt 9 b := by
  obtain ⟨h1, h2, h3, _⟩ := h
  exact ⟨⟨by omega, by omega⟩, ⟨by omega, by omega⟩⟩
theorem bt_num {n : Nat} {x : Int} (h : 0 ≤ x ∧ x < 10 ^ n) : Bt n x := h
theorem sc_divisor : FnScope ["one", "other"] ["one", "other"] (defScope s_divisor) := ⟨rfl, rfl, rfl, by decide +kernel, rfl, by decide +kernel, by decide +kernel⟩
theorem bd_divisor : BindOk "divisor" s_divisor ["one", "other"] := fun _ _ _ _ _ _ us hl => match us, hl with | [_, _], _ => rfl
theorem ok_divisor (T : Txt K mg kA signsZ kindsL) (F : DefF K mg "divisor" s_divisor) : Cal P w K mg base 1 "divisor" (spF f_divisor) := by
  refine cal_fs F sc_divisor bd_divisor (fun z => by first | rfl | (cases z <;> rfl)) (fun f cdv A outer s H E hr => ⟨_, (pss_cons (ps_while PassesOwn.never (pt_cmpR op_ne (pv 1) pe_int (nomark _)) (pss_cons (ps_par (i := 0) (j := 1) rfl sc_divisor.nd rfl rfl (by decide) rfl rfl (pa_cons (pv 1) (pa_cons (pe_op op_mod (pv 0) (pv 1)) pa_nil)) (by rfl))
    pss_nil))
    (pss_cons (ps_ret (pv 0))
    pss_nil)), ?_⟩)
  rintro ⟨a, b⟩ ⟨h1, h2⟩
  refine go_while (fun s : Int × Int => [some (dI s.1), some (dI s.2)]) (fun s => 0 ≤ s.1 ∧ 0 ≤ s.2 ∧ Int.gcd s.1 s.2 = Int.gcd a b) (fun s => s.2.toNat) (a, b) ?_ ⟨h1, h2, rfl⟩ (fun s p => ⟨_, (et_test (ev_op (ev_var rfl) ev_int rv_neI)), fun hb => ⟨(s.2, s.1 % s.2), ?_, ?_, ?_⟩, fun hb => ?_⟩)
  · walk_at "mu le"
  · obtain ⟨p1, p2, p3⟩ := p
    have hb : ¬ s.2 = 0 := by simpa using hb
    exact ⟨p2, Int.emod_nonneg _ hb, by rw [← p3]; exact gcd_step _ _ p1 (by omega)⟩
  · obtain ⟨p1, p2, p3⟩ := p
    have hb : ¬ s.2 = 0 := by simpa using hb
    have := Int.emod_lt_of_pos s.1 (by omega : 0 < s.2)
    have := Int.emod_nonneg s.1 hb
    show (s.1 % s.2).toNat < s.2.toNat
    omega
  · obtain ⟨p1, p2, p3⟩ := p
    have hb : ¬ s.2 = 0 := by simpa using hb
    refine go_par (ea_cons (ev_var rfl) (ea_cons (ev_op (ev_var rfl) (ev_var rfl) (rv_mod (by omega))) ea_nil)) ?_
    refine go_next ?_
    walk_at "mu le"
  · obtain ⟨p1, p2, p3⟩ := p
    have hb : s.2 = 0 := by simpa using hb
    refine go_ret ((ev_var rfl).is ?_)
    show dI s.1 = dI (Int.gcd a b)
    rw [← p3, hb, Int.gcd_zero_right]
    congr 1
    omega
def f_fraction := Fs (fun x : Int × Int => Bt 30 x.1 ∧ Bt 30 x.2 ∧ 0 < x.2) (fun x => [dI x.1, dI x.2]) (fun x => d2 (frac x.1 x.2))
theorem gcd_pos {x y : Int} (hy : 0 < y) : (0 : Int) < Int.gcd x y := by
  have : 0 < Int.gcd x y := Int.gcd_pos_of_ne_zero_right _ (by omega)
  exact_mod_cast this
theorem gcd_bt {x y : Int} (h : Bt 30 y) (hy : 0 < y) : Bt 30 (Int.gcd x y : Int) := by
  refine ⟨by omega, ?_⟩
  have h1 : (Int.gcd x y : Int) ∣ y := Int.gcd_dvd_right ..
  have := Int.le_of_dvd hy h1
  have := h.2
  omega
theorem sc_fraction : FnScope ["top", "bottom", "by"] ["top", "bottom"] (defScope s_fraction) := ⟨rfl, rfl, rfl, by decide +kernel, rfl, by decide +kernel, by decide +kernel⟩
theorem bd_fraction : BindOk "fraction" s_fraction ["top", "bottom"] := fun _ _ _ _ _ _ us hl => match us, hl with | [_, _], _ => rfl
theorem ok_fraction (T : Txt K mg kA signsZ kindsL) (F : DefF K mg "fraction" s_fraction) (c_divisor : Cal P w K mg base 1 "divisor" (spF f_divisor)) : Cal P w K mg base 2 "fraction" (spF f_fraction) := by
  refine cal_fs F sc_fraction bd_fraction (fun z => by first | rfl | (cases z <;> rfl)) (fun f cdv A outer s H E hr => ⟨_, (pss_cons (ps_set (i := 2) sc_fraction.nd rfl (Or.inl rfl) (pe_cal c_divisor hr (by decide : (1 : Nat) ≤ 1) rfl (pa_cons (pv 0) (pa_cons (pv 1) pa_nil))))
    (pss_cons (ps_ret (pe_tup (pa_cons (pe_op op_fdivW (pv 0) (pv 2)) (pa_cons (pe_op op_fdivW (pv 1) (pv 2)) pa_nil))))
    pss_nil)), ?_⟩)
  rintro ⟨x, y⟩ ⟨h1, h2, h3⟩
  have g1 := gcd_bt (x := x) h2 h3
  have g2 := gcd_pos (x := x) h3
  refine go_asg (ev_call (ea_cons (ev_var rfl) (ea_cons (ev_var rfl) ea_nil)) ⟨(x, y), ⟨h1.1, h2.1⟩, rfl, rfl⟩) ?_
  exact go_ret (ev_tup (ea_cons (ev_op (ev_var rfl) (ev_var rfl) (rv_fdiv (g1.cd g2))) (ea_cons (ev_op (ev_var rfl) (ev_var rfl) (rv_fdiv (g1.cd g2))) ea_nil)))
def f_is_less := Fs (fun x : (Int × Int) × (Int × Int) => Bt 30 x.1.1 ∧ Bt 30 x.1.2 ∧ Bt 30 x.2.1 ∧ Bt 30 x.2.2) (fun x => [d2 x.1, d2 x.2]) (fun x => dB (decide (x.1.1 * x.2.2 < x.2.1 * x.1.2)))
theorem sc_is_less : FnScope ["one", "other"] ["one", "other"] (defScope s_is_less) := ⟨rfl, rfl, rfl, by decide +kernel, rfl, by decide +kernel, by decide +kernel⟩
theorem bd_is_less : BindOk "is_less" s_is_less ["one", "other"] := fun _ _ _ _ _ _ us hl => match us, hl with | [_, _], _ => rfl
theorem ok_is_less (T : Txt K mg kA signsZ kindsL) (F : DefF K mg "is_less" s_is_less) : Cal P w K mg base 1 "is_less" (spF f_is_less) := by
  refine cal_fs F sc_is_less bd_is_less (fun z => by first | rfl | (cases z <;> rfl)) (fun f cdv A outer s H E hr => ⟨_, (pss_cons (ps_ret (pe_cmpR op_lt (pe_op op_mulW (pe_ix (k_ixT K rfl) (pv 0) pe_int (fun _ _ => rfl)) (pe_ix (k_ixT K rfl) (pv 1) pe_int (fun _ _ => rfl))) (pe_op op_mulW (pe_ix (k_ixT K rfl) (pv 1) pe_int (fun _ _ => rfl)) (pe_ix (k_ixT K rfl) (pv 0) pe_int (fun _ _ => rfl))) (nomark _)))
    pss_nil), ?_⟩)
  rintro ⟨⟨a, b⟩, ⟨c, d⟩⟩ ⟨h1, h2, h3, h4⟩
  exact go_ret (ev_op (ev_op (ev_op (ev_var rfl) ev_int (rv_ixT rfl)) (ev_op (ev_var rfl) ev_int (rv_ixT rfl)) (rv_mul (h1.cm h4))) (ev_op (ev_op (ev_var rfl) ev_int (rv_ixT rfl)) (ev_op (ev_var rfl) ev_int (rv_ixT rfl)) (rv_mul (h3.cm h2))) rv_lt)
def f_check_kind := Fs (fun _ : Kd => True) (fun k => [dK k]) (fun _ => dN)
theorem kd_in (k : Kd) : k.s ∈ kindsL := by cases k <;> simp [Kd.s, kindsL]
theorem sc_check_kind : FnScope ["kind"] ["kind"] (defScope s_check_kind) := ⟨rfl, rfl, rfl, by decide +kernel, rfl, by decide +kernel, by decide +kernel⟩
theorem bd_check_kind : BindOk "check_kind" s_check_kind ["kind"] := fun _ _ _ _ _ _ us hl => match us, hl with | [_], _ => rfl
theorem ok_check_kind (T : Txt K mg kA signsZ kindsL) (F : DefF K mg "check_kind" s_check_kind) : Cal P w K mg base 1 "check_kind" (spF f_check_kind) := by
  refine cal_fsE F sc_check_kind bd_check_kind (fun z => by first | rfl | (cases z <;> rfl)) (fun f cdv A outer s H E hr => ⟨_, (pss_cons (ps_if (pt_cmpR (k_nin K rfl) (pv 0) (pe_defv (k := 0) (sp := fun _ _ _ _ => True) T.kinds rfl) (by rfl)) (pss_cons ps_never
    pss_nil) pss_nil)
    pss_nil), ?_⟩)
  rintro k -
  refine go_if (et_test (ev_op (ev_var rfl) ev_val (rv_ninK T.kindsL))) (fun hb => ?_) (fun hb => ?_)
  · simp [kd_in k] at hb
  · exact go_nextz go_end
def f_check_least := Fs (fun x : Kd × Int × Int => Lst x.2.1 x.2.2) (fun x => [dK x.1, d2 x.2]) (fun _ => dN)
theorem sc_check_least : FnScope ["kind", "least", "top", "bottom"] ["kind", "least"] (defScope s_check_least) := ⟨rfl, rfl, rfl, by decide +kernel, rfl, by decide +kernel, by decide +kernel⟩
theorem bd_check_least : BindOk "check_least" s_check_least ["kind", "least"] := fun _ _ _ _ _ _ us hl => match us, hl with | [_, _], _ => rfl
theorem ok_check_least (T : Txt K mg kA signsZ kindsL) (F : DefF K mg "check_least" s_check_least) (c_divisor : Cal P w K mg base 1 "divisor" (spF f_divisor)) (c_check_kind : Cal P w K mg base 1 "check_kind" (spF f_check_kind)) : Cal P w K mg base 2 "check_least" (spF f_check_least) := by
  refine cal_fsE F sc_check_least bd_check_least (fun z => by first | rfl | (cases z <;> rfl)) (fun f cdv A outer s H E hr => ⟨_, (pss_cons (ps_expr (pe_cal c_check_kind hr (by decide : (1 : Nat) ≤ 1) rfl (pa_cons (pv 0) pa_nil)))
    (pss_cons (ps_asg (pv 1) (pg_tup rfl (pgs_cons (pg_name (i := 2) sc_check_least.nd rfl (Or.inl rfl)) (pgs_cons (pg_name (i := 3) sc_check_least.nd rfl (Or.inl rfl)) pgs_nil))))
    (pss_cons (ps_if (PW.pt (pw_or (pt_cmpR op_lt (pv 2) pe_int (nomark _)) (pw_or (pt_cmpR op_gt (pv 2) (pv 3) (nomark _)) (pw_or1 (pt_cmpR op_ne (pe_cal c_divisor hr (by decide : (1 : Nat) ≤ 1) rfl (pa_cons (pv 2) (pa_cons (pv 3) pa_nil))) pe_int (nomark _)))))) (pss_cons ps_never
    pss_nil) pss_nil)
    pss_nil))), ?_⟩)
  rintro ⟨k, t, b⟩ h
  have h : Lst t b := h
  refine go_drop (ev_call (ea_cons (ev_var rfl) ea_nil) ⟨k, trivial, rfl, rfl⟩) ?_
  refine go_asgT (ev_var rfl) tg_tup2 ?_
  refine go_if (et_or (et_test (ev_op (ev_var rfl) ev_int rv_lt)) (fun _ => (et_or (et_test (ev_op (ev_var rfl) (ev_var rfl) rv_gt)) (fun _ => (et_test (ev_op (ev_call (ea_cons (ev_var rfl) (ea_cons (ev_var rfl) ea_nil)) ⟨(t, b), ⟨h.bt.1.1, h.bt.2.1⟩, rfl, rfl⟩) ev_int rv_neI)))))) (fun hb => ?_) (fun hb => ?_)
  · exfalso
    obtain ⟨h1, h2, h3, h4⟩ := h
    simp only [Bool.or_eq_true, decide_eq_true_eq, Bool.not_eq_true', decide_eq_false_iff_not, h4] at hb
    omega
  · exact go_nextz go_end
def f_share_of := Fs (fun x : Kd × Int × Int × Int => Wg x.2.1 ∧ Wg x.2.2.1 ∧ Wg x.2.2.2 ∧ x.2.2.2 ≤ x.2.1 ∧ x.2.2.2 ≤ x.2.2.1) (fun x => [dK x.1, dI x.2.1, dI x.2.2.1, dI x.2.2.2]) (fun x => d2 (shareOf x.1 x.2.1 x.2.2.1 x.2.2.2))
theorem sc_share_of : FnScope ["kind", "a", "b", "c"] ["kind", "a", "b", "c"] (defScope s_share_of) := ⟨rfl, rfl, rfl, by decide +kernel, rfl, by decide +kernel, by decide +kernel⟩
theorem bd_share_of : BindOk "share_of" s_share_of ["kind", "a", "b", "c"] := fun _ _ _ _ _ _ us hl => match us, hl with | [_, _, _, _], _ => rfl
theorem ok_share_of (T : Txt K mg kA signsZ kindsL) (F : DefF K mg "share_of" s_share_of) (c_fraction : Cal P w K mg base 2 "fraction" (spF f_fraction)) (c_check_kind : Cal P w K mg base 1 "check_kind" (spF f_check_kind)) : Cal P w K mg base 3 "share_of" (spF f_share_of) := by
  refine cal_fs F sc_share_of bd_share_of (fun z => by first | rfl | (cases z <;> rfl)) (fun f cdv A outer s H E hr => ⟨_, (pss_cons (ps_expr (pe_cal c_check_kind hr (by decide : (1 : Nat) ≤ 2) rfl (pa_cons (pv 0) pa_nil)))
    (pss_cons (ps_if (PW.pt (pw_or (pt_cmpR op_eq (pv 1) pe_int (nomark _)) (pw_or1 (pt_cmpR op_eq (pv 2) pe_int (nomark _))))) (pss_cons (ps_ret (pe_tup (pa_cons pe_int (pa_cons pe_int pa_nil))))
    pss_nil) pss_nil)
    (pss_cons (ps_if (pt_cmpR op_eq (pv 0) pe_str (nomark _)) (pss_cons (ps_ret (pe_cal c_fraction hr (by decide : (2 : Nat) ≤ 2) rfl (pa_cons (pv 3) (pa_cons (pe_op op_sub (pe_op op_add (pv 1) (pv 2)) (pv 3)) pa_nil))))
    pss_nil) pss_nil)
    (pss_cons (ps_if (pt_cmpR op_eq (pv 0) pe_str (nomark _)) (pss_cons (ps_ret (pe_cal c_fraction hr (by decide : (2 : Nat) ≤ 2) rfl (pa_cons (pe_op op_mulW pe_int (pv 3)) (pa_cons (pe_op op_add (pv 1) (pv 2)) pa_nil))))
    pss_nil) pss_nil)
    (pss_cons (ps_if (pt_cmpR op_eq (pv 0) pe_str (nomark _)) (pss_cons (ps_ret (pe_cal c_fraction hr (by decide : (2 : Nat) ≤ 2) rfl (pa_cons (pv 3) (pa_cons (pe_callB (call_max2 rfl) (by rfl) T.max (by decide +kernel) (pa_cons (pv 1) (pa_cons (pv 2) pa_nil))) pa_nil))))
    pss_nil) pss_nil)
    (pss_cons (ps_if (pt_cmpR op_eq (pv 0) pe_str (nomark _)) (pss_cons (ps_ret (pe_cal c_fraction hr (by decide : (2 : Nat) ≤ 2) rfl (pa_cons (pv 3) (pa_cons (pe_callB (call_min2 rfl) (by rfl) T.min (by decide +kernel) (pa_cons (pv 1) (pa_cons (pv 2) pa_nil))) pa_nil))))
    pss_nil) pss_nil)
    (pss_cons (ps_ret (pe_cal c_fraction hr (by decide : (2 : Nat) ≤ 2) rfl (pa_cons (pe_op op_mulW (pv 3) (pv 3)) (pa_cons (pe_op op_mulW (pv 1) (pv 2)) pa_nil))))
    pss_nil))))))), ?_⟩)
  rintro ⟨k, a, b, c⟩ ⟨h1, h2, h3, h4, h5⟩
  have h1 : Wg a := h1
  have h2 : Wg b := h2
  have h3 : Wg c := h3
  have h4 : c ≤ a := h4
  have h5 : c ≤ b := h5
  have b1 := h1.bt
  have b2 := h2.bt
  have b3 := h3.bt
  obtain ⟨a1, a2⟩ := h1
  obtain ⟨c1, c2⟩ := h2
  obtain ⟨e1, e2⟩ := h3
  refine go_drop (ev_call (ea_cons (ev_var rfl) ea_nil) ⟨k, trivial, rfl, rfl⟩) ?_
  refine go_if (et_or (et_test (ev_op (ev_var rfl) ev_int rv_eqI)) (fun _ => (et_test (ev_op (ev_var rfl) ev_int rv_eqI)))) (fun hb => ?_) (fun hb => ?_)
  · refine go_ret ((ev_tup (ea_cons ev_int (ea_cons ev_int ea_nil))).is ?_)
    have hb : a = 0 ∨ b = 0 := by simpa using hb
    show _ = d2 (shareOf k a b c)
    unfold shareOf
    rw [if_pos hb]
  have hb : ¬ (a = 0 ∨ b = 0) := by simpa using hb
  have hs : shareOf k a b c = shareK k a b c := if_neg hb
  refine go_nextz ?_
  refine go_if (et_test (ev_op (ev_var rfl) ev_str rv_eqS)) (fun hk => ?_) (fun hk => ?_)
  · refine go_ret ((ev_call (ea_cons (ev_var rfl) (ea_cons (ev_op (ev_op (ev_var rfl) (ev_var rfl) rv_add) (ev_var rfl) rv_sub) ea_nil)) ⟨(c, a + b - c), ⟨b3.le (by decide), ⟨by show 0 ≤ a + b - c; omega, by show a + b - c < 10 ^ 30; omega⟩, by show 0 < a + b - c; omega⟩, rfl, rfl⟩).is ?_)
    show _ = d2 (shareOf k a b c)
    rw [hs]
    obtain rfl := kd_both hk
    rfl
  refine go_nextz ?_
  refine go_if (et_test (ev_op (ev_var rfl) ev_str rv_eqS)) (fun hk2 => ?_) (fun hk2 => ?_)
  · refine go_ret ((ev_call (ea_cons (ev_op ev_int (ev_var rfl) (rv_mul (Bt.cm (m := 1) ⟨by decide, by decide⟩ b3))) (ea_cons (ev_op (ev_var rfl) (ev_var rfl) rv_add) ea_nil)) ⟨(2 * c, a + b), ⟨⟨by show 0 ≤ 2 * c; omega, by show 2 * c < 10 ^ 30; omega⟩, ⟨by show 0 ≤ a + b; omega, by show a + b < 10 ^ 30; omega⟩, by show 0 < a + b; omega⟩, rfl, rfl⟩).is ?_)
    show _ = d2 (shareOf k a b c)
    rw [hs]
    obtain rfl := kd_mean hk2
    rfl
  refine go_nextz ?_
  refine go_if (et_test (ev_op (ev_var rfl) ev_str rv_eqS)) (fun hk3 => ?_) (fun hk3 => ?_)
  · refine go_ret ((ev_call (ea_cons (ev_var rfl) (ea_cons (ev_cb (ea_cons (ev_var rfl) (ea_cons (ev_var rfl) ea_nil)) rc_max) ea_nil)) ⟨(c, max a b), ⟨b3.le (by decide), ⟨by show 0 ≤ max a b; omega, by show max a b < 10 ^ 30; omega⟩, by show 0 < max a b; omega⟩, rfl, rfl⟩).is ?_)
    show _ = d2 (shareOf k a b c)
    rw [hs]
    obtain rfl := kd_greater hk3
    rfl
  refine go_nextz ?_
  refine go_if (et_test (ev_op (ev_var rfl) ev_str rv_eqS)) (fun hk4 => ?_) (fun hk4 => ?_)
  · refine go_ret ((ev_call (ea_cons (ev_var rfl) (ea_cons (ev_cb (ea_cons (ev_var rfl) (ea_cons (ev_var rfl) ea_nil)) rc_min) ea_nil)) ⟨(c, min a b), ⟨b3.le (by decide), ⟨by show 0 ≤ min a b; omega, by show min a b < 10 ^ 30; omega⟩, by show 0 < min a b; omega⟩, rfl, rfl⟩).is ?_)
    show _ = d2 (shareOf k a b c)
    rw [hs]
    obtain rfl := kd_lesser hk4
    rfl
  refine go_nextz ?_
  refine go_ret ((ev_call (ea_cons (ev_op (ev_var rfl) (ev_var rfl) (rv_mul (b3.cm b3))) (ea_cons (ev_op (ev_var rfl) (ev_var rfl) (rv_mul (b1.cm b2))) ea_nil)) ⟨(c * c, a * b), ⟨(b3.mul b3).le (by decide), (b1.mul b2).le (by decide), Int.mul_pos (by omega) (by omega)⟩, rfl, rfl⟩).is ?_)
  show _ = d2 (shareOf k a b c)
  rw [hs]
  obtain rfl := kd_square hk hk2 hk3 hk4
  rfl
def f_upward := Fs (fun x : Int × Int => Bt 60 x.2 ∧ 0 < x.2) (fun x => [dI x.1, dI x.2]) (fun x => dI (up x.1 x.2))
theorem sc_upward : FnScope ["top", "bottom"] ["top", "bottom"] (defScope s_upward) := ⟨rfl, rfl, rfl, by decide +kernel, rfl, by decide +kernel, by decide +kernel⟩
theorem bd_upward : BindOk "upward" s_upward ["top", "bottom"] := fun _ _ _ _ _ _ us hl => match us, hl with | [_, _], _ => rfl
theorem ok_upward (T : Txt K mg kA signsZ kindsL) (F : DefF K mg "upward" s_upward) : Cal P w K mg base 1 "upward" (spF f_upward) := by
  refine cal_fs F sc_upward bd_upward (fun z => by first | rfl | (cases z <;> rfl)) (fun f cdv A outer s H E hr => ⟨_, (pss_cons (ps_ret (pe_op op_fdivW (pe_op op_sub (pe_op op_add (pv 0) (pv 1)) pe_int) (pv 1)))
    pss_nil), ?_⟩)
  rintro ⟨p, q⟩ ⟨h1, h2⟩
  exact go_ret (ev_op (ev_op (ev_op (ev_var rfl) (ev_var rfl) rv_add) ev_int rv_sub) (ev_var rfl) (rv_fdiv (h1.cd h2)))
theorem sq_mono {x y : Int} (h0 : 0 ≤ x) (h : x ≤ y) : x * x ≤ y * y := Int.mul_le_mul h h h0 (by omega)
theorem sq_lt {x y : Int} (h0 : 0 ≤ y) (h : x * x < y * y) : x < y := by
  rcases Int.lt_or_le x y with h1 | h1
  · exact h1
  · have := sq_mono h0 h1
    omega
def f_root_upward := Fs (fun x : Int => Bt 40 x) (fun x => [dI x]) (fun x => dI (rootUp x))
theorem sc_root_upward : FnScope ["number", "low", "high", "middle"] ["number"] (defScope s_root_upward) := ⟨rfl, rfl, rfl, by decide +kernel, rfl, by decide +kernel, by decide +kernel⟩
theorem bd_root_upward : BindOk "root_upward" s_root_upward ["number"] := fun _ _ _ _ _ _ us hl => match us, hl with | [_], _ => rfl
theorem ok_root_upward (T : Txt K mg kA signsZ kindsL) (F : DefF K mg "root_upward" s_root_upward) : Cal P w K mg base 1 "root_upward" (spF f_root_upward) := by
  refine cal_fs F sc_root_upward bd_root_upward (fun z => by first | rfl | (cases z <;> rfl)) (fun f cdv A outer s H E hr => ⟨_, (pss_cons (ps_set (i := 1) sc_root_upward.nd rfl (Or.inl rfl) pe_int)
    (pss_cons (ps_set (i := 2) sc_root_upward.nd rfl (Or.inl rfl) pe_int)
    (pss_cons (ps_while PassesOwn.never (pt_cmpR op_lt (pe_op op_mulW (pv 2) (pv 2)) (pv 0) (nomark _)) (pss_cons (ps_set (i := 1) sc_root_upward.nd rfl (Or.inl rfl) (pv 2))
    (pss_cons (ps_set (i := 2) sc_root_upward.nd rfl (Or.inl rfl) (pe_op op_mulW pe_int (pv 2)))
    pss_nil)))
    (pss_cons (ps_while PassesOwn.never (pt_cmpR op_lt (pv 1) (pv 2) (nomark _)) (pss_cons (ps_set (i := 3) sc_root_upward.nd rfl (Or.inl rfl) (pe_op op_fdivW (pe_op op_add (pv 1) (pv 2)) pe_int))
    (pss_cons (ps_if (pt_cmpR op_lt (pe_op op_mulW (pv 3) (pv 3)) (pv 0) (nomark _)) (pss_cons (ps_set (i := 1) sc_root_upward.nd rfl (Or.inl rfl) (pe_op op_add (pv 3) pe_int))
    pss_nil) (pss_cons (ps_set (i := 2) sc_root_upward.nd rfl (Or.inl rfl) (pv 3))
    pss_nil))
    pss_nil)))
    (pss_cons (ps_ret (pv 2))
    pss_nil))))), ?_⟩)
  rintro n h
  have h : Bt 40 n := h
  have bd : ∀ x : Int, 0 ≤ x → x * x < n → x < 10 ^ 20 := fun x h0 hx => sq_lt (by decide) (Int.lt_trans hx (Int.lt_of_lt_of_le h.2 (by decide)))
  refine go_asg ev_int ?_
  refine go_asg ev_int ?_
  refine go_while (fun s : Int × Int => [some (dI n), some (dI s.1), some (dI s.2), none]) (fun s => 0 ≤ s.1 ∧ s.1 ≤ s.2 ∧ 1 ≤ s.2 ∧ Bt 21 s.2 ∧ (∀ c : Int, 0 ≤ c → n ≤ c * c → s.1 ≤ c)) (fun s => (n - s.2).toNat) (0, 1) ?_ ⟨by decide, by decide, by decide, ⟨by decide, by decide⟩, fun c hc _ => hc⟩ (fun s p => ⟨_, (et_test (ev_op (ev_op (ev_var rfl) (ev_var rfl) (rv_mul (p.2.2.2.1.cm p.2.2.2.1))) (ev_var rfl) rv_lt)), fun hb => ⟨(s.2, 2 * s.2), ?_, ?_, ?_⟩, fun hb => ?_⟩)
  · walk_at "mu le"
  · obtain ⟨p1, p2, p3, p4, p5⟩ := p
    have hb : s.2 * s.2 < n := by simpa using hb
    have h1 := bd s.2 p4.1 hb
    exact ⟨p4.1, by show s.2 ≤ 2 * s.2; omega, by show 1 ≤ 2 * s.2; omega, ⟨by show 0 ≤ 2 * s.2; omega, by show 2 * s.2 < 10 ^ 21; omega⟩, fun c hc hn => Int.le_of_lt (sq_lt (x := s.2) hc (by have hn : n ≤ c * c := hn; omega))⟩
  · obtain ⟨p1, p2, p3, p4, p5⟩ := p
    have hb : s.2 * s.2 < n := by simpa using hb
    have h1 : 1 * s.2 ≤ s.2 * s.2 := Int.mul_le_mul_of_nonneg_right p3 p4.1
    show (n - 2 * s.2).toNat < (n - s.2).toNat
    omega
  · obtain ⟨p1, p2, p3, p4, p5⟩ := p
    refine go_asg (ev_var rfl) ?_
    refine go_asg (ev_op ev_int (ev_var rfl) (rv_mul (Bt.cm (m := 1) ⟨by decide, by decide⟩ p4))) ?_
    refine go_next ?_
    walk_at "mu le"
  · obtain ⟨p1, p2, p3, p4, p5⟩ := p
    have hb : n ≤ s.2 * s.2 := by simpa using hb
    refine go_while (fun q : Int × Int => [some (dI n), some (dI q.1), some (dI q.2), none]) (fun q => 0 ≤ q.1 ∧ q.1 ≤ q.2 ∧ q.2 ≤ s.2 ∧ n ≤ q.2 * q.2 ∧ (∀ c : Int, 0 ≤ c → n ≤ c * c → q.1 ≤ c)) (fun q => (q.2 - q.1).toNat) s ?_ ⟨p1, p2, Int.le_refl _, hb, p5⟩ (fun q r => ⟨_, (et_test (ev_op (ev_var rfl) (ev_var rfl) rv_lt)), fun hc => ?_, fun hc => ?_⟩)
    · walk_at "mu le"
    · obtain ⟨r1, r2, r3, r4, r5⟩ := r
      have hc : q.1 < q.2 := by simpa using hc
      have m1 : q.1 ≤ (q.1 + q.2) / 2 := by omega
      have m2 : (q.1 + q.2) / 2 < q.2 := by omega
      have hm : Bt 21 ((q.1 + q.2) / 2) := ⟨by omega, by have := p4.2; omega⟩
      by_cases hd : (q.1 + q.2) / 2 * ((q.1 + q.2) / 2) < n
      · refine ⟨((q.1 + q.2) / 2 + 1, q.2), ⟨by show 0 ≤ (q.1 + q.2) / 2 + 1; omega, by show (q.1 + q.2) / 2 + 1 ≤ q.2; omega, r3, r4, fun c hc hn => by have := sq_lt (x := (q.1 + q.2) / 2) hc (by omega); show (q.1 + q.2) / 2 + 1 ≤ c; omega⟩, by show (q.2 - ((q.1 + q.2) / 2 + 1)).toNat < (q.2 - q.1).toNat; omega, ?_⟩
        refine go_asg (ev_op (ev_op (ev_var rfl) (ev_var rfl) rv_add) ev_int (rv_fdiv (Bt.cd (n := 1) ⟨by decide, by decide⟩ (by decide)))) ?_
        refine go_if (et_test (ev_op (ev_op (ev_var rfl) (ev_var rfl) (rv_mul (hm.cm hm))) (ev_var rfl) rv_lt)) (fun hb => ?_) (fun hb => ?_)
        · refine go_assoc (go_asg (ev_op (ev_var rfl) ev_int rv_add) ?_)
          refine go_nextz (go_next ?_)
          walk_at "mu le"
        · simp [hd] at hb
      · refine ⟨(q.1, (q.1 + q.2) / 2), ⟨r1, m1, by show (q.1 + q.2) / 2 ≤ s.2; omega, by show n ≤ (q.1 + q.2) / 2 * ((q.1 + q.2) / 2); omega, r5⟩, by show ((q.1 + q.2) / 2 - q.1).toNat < (q.2 - q.1).toNat; omega, ?_⟩
        refine go_asg (ev_op (ev_op (ev_var rfl) (ev_var rfl) rv_add) ev_int (rv_fdiv (Bt.cd (n := 1) ⟨by decide, by decide⟩ (by decide)))) ?_
        refine go_if (et_test (ev_op (ev_op (ev_var rfl) (ev_var rfl) (rv_mul (hm.cm hm))) (ev_var rfl) rv_lt)) (fun hb => ?_) (fun hb => ?_)
        · simp [hd] at hb
        · refine go_assoc (go_asg (ev_var rfl) ?_)
          refine go_nextz (go_next ?_)
          walk_at "mu le"
    · obtain ⟨r1, r2, r3, r4, r5⟩ := r
      have hc : ¬ q.1 < q.2 := by simpa using hc
      have e : q.1 = q.2 := by omega
      refine go_ret ((ev_var rfl).is ?_)
      show dI q.2 = dI (rootUp n)
      rw [rootUp_eq ⟨by omega, r4, fun c h1 h2 => e ▸ r5 c h1 h2⟩]
def f_need := Fs (fun x : Kd × (Int × Int) × Int × Int => Lst x.2.1.1 x.2.1.2 ∧ Wg x.2.2.1 ∧ Wg x.2.2.2) (fun x => [dK x.1, d2 x.2.1, dI x.2.2.1, dI x.2.2.2]) (fun x => dI (need x.1 x.2.1.1 x.2.1.2 x.2.2.1 x.2.2.2))
theorem up_bt {m n : Nat} {p q : Int} (h : Bt m p) (hq : 0 < q) (h2 : q < 10 ^ m) : Bt (m + 1) (up p q) := by
  refine ⟨up_nonneg h.1 hq, ?_⟩
  have h1 : up p q ≤ p := (up_le hq).mpr (by
    have := Int.mul_le_mul_of_nonneg_left (a := 1) (b := q) (c := p) (by omega) h.1
    omega)
  have := h.2
  rw [Int.pow_succ]
  have : (0 : Int) < 10 ^ m := by omega
  omega
theorem sc_need : FnScope ["kind", "least", "a", "b", "top", "bottom"] ["kind", "least", "a", "b"] (defScope s_need) := ⟨rfl, rfl, rfl, by decide +kernel, rfl, by decide +kernel, by decide +kernel⟩
theorem bd_need : BindOk "need" s_need ["kind", "least", "a", "b"] := fun _ _ _ _ _ _ us hl => match us, hl with | [_, _, _, _], _ => rfl
theorem ok_need (T : Txt K mg kA signsZ kindsL) (F : DefF K mg "need" s_need) (c_check_least : Cal P w K mg base 2 "check_least" (spF f_check_least)) (c_upward : Cal P w K mg base 1 "upward" (spF f_upward)) (c_root_upward : Cal P w K mg base 1 "root_upward" (spF f_root_upward)) : Cal P w K mg base 3 "need" (spF f_need) := by
  refine cal_fs F sc_need bd_need (fun z => by first | rfl | (cases z <;> rfl)) (fun f cdv A outer s H E hr => ⟨_, (pss_cons (ps_expr (pe_cal c_check_least hr (by decide : (2 : Nat) ≤ 2) rfl (pa_cons (pv 0) (pa_cons (pv 1) pa_nil))))
    (pss_cons (ps_asg (pv 1) (pg_tup rfl (pgs_cons (pg_name (i := 4) sc_need.nd rfl (Or.inl rfl)) (pgs_cons (pg_name (i := 5) sc_need.nd rfl (Or.inl rfl)) pgs_nil))))
    (pss_cons (ps_if (pt_cmpR op_eq (pv 0) pe_str (nomark _)) (pss_cons (ps_ret (pe_cal c_upward hr (by decide : (1 : Nat) ≤ 2) rfl (pa_cons (pe_op op_mulW (pv 4) (pe_op op_add (pv 2) (pv 3))) (pa_cons (pe_op op_add (pv 4) (pv 5)) pa_nil))))
    pss_nil) pss_nil)
    (pss_cons (ps_if (pt_cmpR op_eq (pv 0) pe_str (nomark _)) (pss_cons (ps_ret (pe_cal c_upward hr (by decide : (1 : Nat) ≤ 2) rfl (pa_cons (pe_op op_mulW (pv 4) (pe_op op_add (pv 2) (pv 3))) (pa_cons (pe_op op_mulW pe_int (pv 5)) pa_nil))))
    pss_nil) pss_nil)
    (pss_cons (ps_if (pt_cmpR op_eq (pv 0) pe_str (nomark _)) (pss_cons (ps_ret (pe_cal c_upward hr (by decide : (1 : Nat) ≤ 2) rfl (pa_cons (pe_op op_mulW (pv 4) (pe_callB (call_max2 rfl) (by rfl) T.max (by decide +kernel) (pa_cons (pv 2) (pa_cons (pv 3) pa_nil)))) (pa_cons (pv 5) pa_nil))))
    pss_nil) pss_nil)
    (pss_cons (ps_if (pt_cmpR op_eq (pv 0) pe_str (nomark _)) (pss_cons (ps_ret (pe_cal c_upward hr (by decide : (1 : Nat) ≤ 2) rfl (pa_cons (pe_op op_mulW (pv 4) (pe_callB (call_min2 rfl) (by rfl) T.min (by decide +kernel) (pa_cons (pv 2) (pa_cons (pv 3) pa_nil)))) (pa_cons (pv 5) pa_nil))))
    pss_nil) pss_nil)
    (pss_cons (ps_ret (pe_cal c_root_upward hr (by decide : (1 : Nat) ≤ 2) rfl (pa_cons (pe_cal c_upward hr (by decide : (1 : Nat) ≤ 2) rfl (pa_cons (pe_op op_mulW (pe_op op_mulW (pv 4) (pv 2)) (pv 3)) (pa_cons (pv 5) pa_nil))) pa_nil)))
    pss_nil))))))), ?_⟩)
  rintro ⟨k, ⟨t, b⟩, a, c⟩ ⟨h1, h2, h3⟩
  have h1 : Lst t b := h1
  have h2 : Wg a := h2
  have h3 : Wg c := h3
  obtain ⟨bt, bb⟩ := h1.bt
  obtain ⟨t1, t2, t3, t4⟩ := id h1
  obtain ⟨a1, a2⟩ := id h2
  obtain ⟨c1, c2⟩ := id h3
  have b13 : Bt 13 (a + c) := ⟨by omega, by show a + c < 10 ^ 13; omega⟩
  refine go_drop (ev_call (ea_cons (ev_var rfl) (ea_cons (ev_var rfl) ea_nil)) ⟨(k, t, b), h1, rfl, rfl⟩) ?_
  refine go_asgT (ev_var rfl) tg_tup2 ?_
  refine go_if (et_test (ev_op (ev_var rfl) ev_str rv_eqS)) (fun hk => ?_) (fun hk => ?_)
  · obtain rfl := kd_both hk
    exact go_ret (ev_call (ea_cons (ev_op (ev_var rfl) (ev_op (ev_var rfl) (ev_var rfl) rv_add) (rv_mul (bt.cm b13))) (ea_cons (ev_op (ev_var rfl) (ev_var rfl) rv_add) ea_nil)) ⟨(t * (a + c), t + b), ⟨⟨by show 0 ≤ t + b; omega, by show t + b < 10 ^ 60; omega⟩, by show 0 < t + b; omega⟩, rfl, rfl⟩)
  refine go_nextz ?_
  refine go_if (et_test (ev_op (ev_var rfl) ev_str rv_eqS)) (fun hk2 => ?_) (fun hk2 => ?_)
  · obtain rfl := kd_mean hk2
    exact go_ret (ev_call (ea_cons (ev_op (ev_var rfl) (ev_op (ev_var rfl) (ev_var rfl) rv_add) (rv_mul (bt.cm b13))) (ea_cons (ev_op ev_int (ev_var rfl) (rv_mul (Bt.cm (m := 1) ⟨by decide, by decide⟩ bb))) ea_nil)) ⟨(t * (a + c), 2 * b), ⟨⟨by show 0 ≤ 2 * b; omega, by show 2 * b < 10 ^ 60; omega⟩, by show 0 < 2 * b; omega⟩, rfl, rfl⟩)
  refine go_nextz ?_
  refine go_if (et_test (ev_op (ev_var rfl) ev_str rv_eqS)) (fun hk3 => ?_) (fun hk3 => ?_)
  · obtain rfl := kd_greater hk3
    exact go_ret (ev_call (ea_cons (ev_op (ev_var rfl) (ev_cb (ea_cons (ev_var rfl) (ea_cons (ev_var rfl) ea_nil)) rc_max) (rv_mul (Bt.cm bt (n := 12) ⟨by show 0 ≤ max a c; omega, by show max a c < 10 ^ 12; omega⟩))) (ea_cons (ev_var rfl) ea_nil)) ⟨(t * max a c, b), ⟨bb.le (by decide), by show 0 < b; omega⟩, rfl, rfl⟩)
  refine go_nextz ?_
  refine go_if (et_test (ev_op (ev_var rfl) ev_str rv_eqS)) (fun hk4 => ?_) (fun hk4 => ?_)
  · obtain rfl := kd_lesser hk4
    exact go_ret (ev_call (ea_cons (ev_op (ev_var rfl) (ev_cb (ea_cons (ev_var rfl) (ea_cons (ev_var rfl) ea_nil)) rc_min) (rv_mul (Bt.cm bt (n := 12) ⟨by show 0 ≤ min a c; omega, by show min a c < 10 ^ 12; omega⟩))) (ea_cons (ev_var rfl) ea_nil)) ⟨(t * min a c, b), ⟨bb.le (by decide), by show 0 < b; omega⟩, rfl, rfl⟩)
  refine go_nextz ?_
  obtain rfl := kd_square hk hk2 hk3 hk4
  have b21 := bt.mul h2.bt
  have b33 := b21.mul h3.bt
  exact go_ret (ev_call (ea_cons (ev_call (ea_cons (ev_op (ev_op (ev_var rfl) (ev_var rfl) (rv_mul (bt.cm h2.bt))) (ev_var rfl) (rv_mul (b21.cm h3.bt))) (ea_cons (ev_var rfl) ea_nil)) ⟨(t * a * c, b), ⟨bb.le (by decide), by show 0 < b; omega⟩, rfl, rfl⟩) ea_nil) ⟨up (t * a * c) b, (up_bt (n := 0) b33 (by omega) (by have := bb.2; omega)).le (by decide), rfl, rfl⟩)
/-- what mates hands back -/
def matesD (k : Kd) (t b a : Int) : Dn := dT [dI (mateLow k t b a), match k with | .lesser => dN | .mean => dI ((2 * b - t) * a / t) | _ => dI (b * a / t)]
def f_mates := Fs (fun x : Kd × (Int × Int) × Int => Lst x.2.1.1 x.2.1.2 ∧ Wg x.2.2) (fun x => [dK x.1, d2 x.2.1, dI x.2.2]) (fun x => matesD x.1 x.2.1.1 x.2.1.2 x.2.2)
theorem sc_mates : FnScope ["kind", "least", "a", "top", "bottom"] ["kind", "least", "a"] (defScope s_mates) := ⟨rfl, rfl, rfl, by decide +kernel, rfl, by decide +kernel, by decide +kernel⟩
theorem bd_mates : BindOk "mates" s_mates ["kind", "least", "a"] := fun _ _ _ _ _ _ us hl => match us, hl with | [_, _, _], _ => rfl
theorem ok_mates (T : Txt K mg kA signsZ kindsL) (F : DefF K mg "mates" s_mates) (c_check_least : Cal P w K mg base 2 "check_least" (spF f_check_least)) (c_upward : Cal P w K mg base 1 "upward" (spF f_upward)) : Cal P w K mg base 3 "mates" (spF f_mates) := by
  refine cal_fs F sc_mates bd_mates (fun z => by first | rfl | (cases z <;> rfl)) (fun f cdv A outer s H E hr => ⟨_, (pss_cons (ps_expr (pe_cal c_check_least hr (by decide : (2 : Nat) ≤ 2) rfl (pa_cons (pv 0) (pa_cons (pv 1) pa_nil))))
    (pss_cons (ps_asg (pv 1) (pg_tup rfl (pgs_cons (pg_name (i := 3) sc_mates.nd rfl (Or.inl rfl)) (pgs_cons (pg_name (i := 4) sc_mates.nd rfl (Or.inl rfl)) pgs_nil))))
    (pss_cons (ps_if (pt_cmpR op_eq (pv 0) pe_str (nomark _)) (pss_cons (ps_ret (pe_tup (pa_cons pe_int (pa_cons pe_non pa_nil))))
    pss_nil) pss_nil)
    (pss_cons (ps_if (pt_cmpR op_eq (pv 0) pe_str (nomark _)) (pss_cons (ps_set (i := 4) sc_mates.nd rfl (Or.inl rfl) (pe_op op_sub (pe_op op_mulW pe_int (pv 4)) (pv 3)))
    pss_nil) pss_nil)
    (pss_cons (ps_ret (pe_tup (pa_cons (pe_cal c_upward hr (by decide : (1 : Nat) ≤ 2) rfl (pa_cons (pe_op op_mulW (pv 3) (pv 2)) (pa_cons (pv 4) pa_nil))) (pa_cons (pe_op op_fdivW (pe_op op_mulW (pv 4) (pv 2)) (pv 3)) pa_nil))))
    pss_nil))))), ?_⟩)
  rintro ⟨k, ⟨t, b⟩, a⟩ ⟨h1, h2⟩
  have h1 : Lst t b := h1
  have h2 : Wg a := h2
  obtain ⟨bt, bb⟩ := h1.bt
  obtain ⟨t1, t2, t3, t4⟩ := id h1
  have t0 : 0 < t := by omega
  refine go_drop (ev_call (ea_cons (ev_var rfl) (ea_cons (ev_var rfl) ea_nil)) ⟨(k, t, b), h1, rfl, rfl⟩) ?_
  refine go_asgT (ev_var rfl) tg_tup2 ?_
  refine go_if (et_test (ev_op (ev_var rfl) ev_str rv_eqS)) (fun hk4 => ?_) (fun hk4 => ?_)
  · obtain rfl := kd_lesser hk4
    exact go_ret (ev_tup (ea_cons ev_int (ea_cons ev_non ea_nil)))
  refine go_nextz ?_
  refine go_if (et_test (ev_op (ev_var rfl) ev_str rv_eqS)) (fun hk2 => ?_) (fun hk2 => ?_)
  · obtain rfl := kd_mean hk2
    have bm : Bt 10 (2 * b - t) := ⟨by omega, by show 2 * b - t < 10 ^ 10; omega⟩
    refine go_assoc (go_asg (ev_op (ev_op ev_int (ev_var rfl) (rv_mul (Bt.cm (m := 1) ⟨by decide, by decide⟩ bb))) (ev_var rfl) rv_sub) ?_)
    refine go_nextz ?_
    exact go_ret (ev_tup (ea_cons (ev_call (ea_cons (ev_op (ev_var rfl) (ev_var rfl) (rv_mul (bt.cm h2.bt))) (ea_cons (ev_var rfl) ea_nil)) ⟨(t * a, 2 * b - t), ⟨bm.le (by decide), by show 0 < 2 * b - t; omega⟩, rfl, rfl⟩) (ea_cons (ev_op (ev_op (ev_var rfl) (ev_var rfl) (rv_mul (bm.cm h2.bt))) (ev_var rfl) (rv_fdiv (bt.cd t0))) ea_nil)))
  refine go_nextz ?_
  refine go_ret ((ev_tup (ea_cons (ev_call (ea_cons (ev_op (ev_var rfl) (ev_var rfl) (rv_mul (bt.cm h2.bt))) (ea_cons (ev_var rfl) ea_nil)) ⟨(t * a, b), ⟨bb.le (by decide), by show 0 < b; omega⟩, rfl, rfl⟩) (ea_cons (ev_op (ev_op (ev_var rfl) (ev_var rfl) (rv_mul (bb.cm h2.bt))) (ev_var rfl) (rv_fdiv (bt.cd t0))) ea_nil))).is ?_)
  show _ = matesD k t b a
  have n2 : k ≠ .mean := by rintro rfl; exact absurd hk2 (show ¬ decide (Kd.mean.s = "mean") = false by decide)
  have n4 : k ≠ .lesser := by rintro rfl; exact absurd hk4 (show ¬ decide (Kd.lesser.s = "lesser") = false by decide)
  clear hk2 hk4 h1 h2
  cases k <;> first | rfl | exact absurd rfl n2 | exact absurd rfl n4
def f_are_mates := Fs (fun x : Kd × (Int × Int) × Int × Int => Lst x.2.1.1 x.2.1.2 ∧ Wg x.2.2.1 ∧ Wg x.2.2.2) (fun x => [dK x.1, d2 x.2.1, dI x.2.2.1, dI x.2.2.2]) (fun x => dB (areMates x.1 x.2.1.1 x.2.1.2 x.2.2.1 x.2.2.2))
theorem sc_are_mates : FnScope ["kind", "least", "a", "b"] ["kind", "least", "a", "b"] (defScope s_are_mates) := ⟨rfl, rfl, rfl, by decide +kernel, rfl, by decide +kernel, by decide +kernel⟩
theorem bd_are_mates : BindOk "are_mates" s_are_mates ["kind", "least", "a", "b"] := fun _ _ _ _ _ _ us hl => match us, hl with | [_, _, _, _], _ => rfl
theorem ok_are_mates (T : Txt K mg kA signsZ kindsL) (F : DefF K mg "are_mates" s_are_mates) (c_need : Cal P w K mg base 3 "need" (spF f_need)) : Cal P w K mg base 4 "are_mates" (spF f_are_mates) := by
  refine cal_fs F sc_are_mates bd_are_mates (fun z => by first | rfl | (cases z <;> rfl)) (fun f cdv A outer s H E hr => ⟨_, (pss_cons (ps_ret (pe_and (pe_cmpR op_gt (pv 2) pe_int (nomark _)) (pe_and (pe_cmpR op_gt (pv 3) pe_int (nomark _)) (pe_one (pe_cmpR op_le (pe_cal c_need hr (by decide : (3 : Nat) ≤ 3) rfl (pa_cons (pv 0) (pa_cons (pv 1) (pa_cons (pv 2) (pa_cons (pv 3) pa_nil))))) (pe_callB (call_min2 rfl) (by rfl) T.min (by decide +kernel) (pa_cons (pv 2) (pa_cons (pv 3) pa_nil))) (nomark _))))))
    pss_nil), ?_⟩)
  rintro ⟨k, ⟨t, b⟩, a, c⟩ ⟨h1, h2, h3⟩
  exact go_ret (ev_andV (ev_op (ev_var rfl) ev_int rv_gt) (fun _ => (ev_andV (ev_op (ev_var rfl) ev_int rv_gt) (fun _ => (ev_op (ev_call (ea_cons (ev_var rfl) (ea_cons (ev_var rfl) (ea_cons (ev_var rfl) (ea_cons (ev_var rfl) ea_nil)))) ⟨(k, (t, b), a, c), ⟨h1, h2, h3⟩, rfl, rfl⟩) (ev_cb (ea_cons (ev_var rfl) (ea_cons (ev_var rfl) ea_nil)) rc_min) rv_le)))))
theorem mateLow_wg {k : Kd} {t b a : Int} (h : Lst t b) (ha : Wg a) (h0 : 1 ≤ a) : 1 ≤ mateLow k t b a ∧ mateLow k t b a ≤ a := by
  obtain ⟨t1, t2, t3, _⟩ := h
  have e : ∀ q : Int, t ≤ q → 1 ≤ up (t * a) q ∧ up (t * a) q ≤ a := fun q hq => by
    have hp : 0 < t * a := Int.mul_pos (by omega) (by omega)
    constructor
    · rcases Int.lt_or_le (up (t * a) q) 1 with h1 | h1
      · have := (up_le (p := t * a) (q := q) (c := 0) (by omega)).mp (by omega)
        omega
      · exact h1
    · refine (up_le (by omega)).mpr ?_
      rw [Int.mul_comm a q]
      exact Int.mul_le_mul_of_nonneg_right hq (by omega)
  cases k with
  | lesser => exact ⟨Int.le_refl _, h0⟩
  | mean => exact e _ (by omega)
  | both => exact e _ t2
  | greater => exact e _ t2
  | square => exact e _ t2
def f_least_need := Fs (fun x : Kd × (Int × Int) × Int => Lst x.2.1.1 x.2.1.2 ∧ Wg x.2.2 ∧ 1 ≤ x.2.2) (fun x => [dK x.1, d2 x.2.1, dI x.2.2]) (fun x => dI (leastNeed x.1 x.2.1.1 x.2.1.2 x.2.2))
theorem sc_least_need : FnScope ["kind", "least", "a"] ["kind", "least", "a"] (defScope s_least_need) := ⟨rfl, rfl, rfl, by decide +kernel, rfl, by decide +kernel, by decide +kernel⟩
theorem bd_least_need : BindOk "least_need" s_least_need ["kind", "least", "a"] := fun _ _ _ _ _ _ us hl => match us, hl with | [_, _, _], _ => rfl
theorem ok_least_need (T : Txt K mg kA signsZ kindsL) (F : DefF K mg "least_need" s_least_need) (c_need : Cal P w K mg base 3 "need" (spF f_need)) (c_mates : Cal P w K mg base 3 "mates" (spF f_mates)) : Cal P w K mg base 4 "least_need" (spF f_least_need) := by
  refine cal_fs F sc_least_need bd_least_need (fun z => by first | rfl | (cases z <;> rfl)) (fun f cdv A outer s H E hr => ⟨_, (pss_cons (ps_ret (pe_cal c_need hr (by decide : (3 : Nat) ≤ 3) rfl (pa_cons (pv 0) (pa_cons (pv 1) (pa_cons (pv 2) (pa_cons (pe_ix (k_ixT K rfl) (pe_cal c_mates hr (by decide : (3 : Nat) ≤ 3) rfl (pa_cons (pv 0) (pa_cons (pv 1) (pa_cons (pv 2) pa_nil)))) pe_int (fun _ _ => rfl)) pa_nil))))))
    pss_nil), ?_⟩)
  rintro ⟨k, ⟨t, b⟩, a⟩ ⟨h1, h2, h3⟩
  have h2 : Wg a := h2
  have hw : 1 ≤ mateLow k t b a ∧ mateLow k t b a ≤ a := mateLow_wg (k := k) h1 h2 h3
  exact go_ret (ev_call (ea_cons (ev_var rfl) (ea_cons (ev_var rfl) (ea_cons (ev_var rfl) (ea_cons (ev_op (ev_call (ea_cons (ev_var rfl) (ea_cons (ev_var rfl) (ea_cons (ev_var rfl) ea_nil))) ⟨(k, (t, b), a), ⟨h1, h2⟩, rfl, rfl⟩) ev_int (rv_ixT rfl)) ea_nil)))) ⟨(k, (t, b), a, mateLow k t b a), ⟨h1, h2, by have := hw.1; show 0 ≤ mateLow k t b a; omega, by have := hw.2; have := h2.2; show mateLow k t b a < _; omega⟩, rfl, rfl⟩)
end
end Mu
/-! More operations over denotations. -/
namespace Mu
open PySem PySem.Spec PyProof.Rows L2
theorem Ev.weak {te : TE} {ρ : Ro} {d d' : Dn} (h : Ev te ρ d) (f : ∀ v N, d.p v N → d'.p v N) : Ev te ρ d' := fun σ N H e s Q q => h σ N H e s Q fun v N' H' x p => q v N' H' x (f v N' p)
/-- anything -/
def dA : Dn := ⟨fun _ _ => True, fun _ _ _ _ h => h⟩
theorem Ev.any {te : TE} {ρ : Ro} {d : Dn} (h : Ev te ρ d) : Ev te ρ dA := h.weak fun _ _ _ => trivial
section
variable {ρ : Ro} {K : PySem.W.Frag} {ta tb te : TE} {d e : Dn} {ds es : List Dn}
theorem rv_catT (hn : ds ≠ []) (hl : ds.length + es.length ≤ 1000000) : RvR (rCatT K) (dT ds) (dT es) (dT (ds ++ es)) := fun u v N H s hx hy Q q => by
  obtain ⟨a, vs, rfl, ha, r⟩ := hx
  obtain ⟨b, ws, rfl, hb, r'⟩ := hy
  refine ⟨a, b, vs, ws, rfl, rfl, SqT.of (s a _ ha), SqT.of (s b _ hb), fun z => ?_, by rw [← r.len, ← r'.len, sizeLine_eq]; omega, fun z => ?_, fun z p hp => ?_⟩
  · subst z
    cases r
    exact hn rfl
  · subst z
    cases r'
    rw [List.append_nil] at q
    exact q _ N H (.refl s) ⟨a, vs, rfl, ha, r⟩
  · exact q _ _ _ (.new s hp) ⟨p, _, rfl, upd_same, (r.app r').mono (Nx.new s hp).n⟩
theorem ev_catT (ha : Ev ta ρ (dT ds)) (hb : Ev tb ρ (dT es)) (hn : ds ≠ []) (hl : ds.length + es.length ≤ 1000000) : Ev (tOp (rCatT K) ta tb) ρ (dT (ds ++ es)) := ev_op ha hb (rv_catT hn hl)
theorem rc_sortedS {xs : List Str} (h : xs.length < 64) : RvC (rSortedS K) [dL (xs.map dS)] (dEx (fun ys : List Str => ys.Perm xs) fun ys => dL (ys.map dS)) := fun vs N H s r Q q => by
  cases r with
  | cons h1 t =>
    cases t
    obtain ⟨a, vs, rfl, ha, r⟩ := h1
    rw [rep_str r] at ha
    exact ⟨a, xs, rfl, SqL.of (s a _ ha), h, fun ys p hp _ hn => q _ _ _ (.new s hn) ⟨ys, hp, p, _, rfl, upd_same, rep_strs⟩⟩
theorem ev_lenSetS {xs : List Str} (h : Ev ta ρ (dL (xs.map dS))) (hn : xs.Nodup) (hl : xs.length ≤ 4000) : Ev (tLenSetS K ta) ρ (dI xs.length) := fun σ N H e s Q q =>
  h σ N H e s _ fun v N1 H1 x1 p => by
    obtain ⟨a, vs, rfl, ha, r⟩ := p
    rw [rep_str r] at ha
    exact ⟨a, xs, rfl, SqL.of (x1.s a _ ha), hn, hl, q _ N1 H1 x1 rfl⟩
theorem ev_sortedSet {xs : List Str} (h : Ev ta ρ (dL (xs.map dS))) (hn : ∃ L : List Str, L.length < 64 ∧ ∀ z ∈ xs, z ∈ L) (hl : xs.length ≤ 1000) : Ev (tSortedSet K ta) ρ (dEx (fun ys : List Str => (∀ z, z ∈ ys ↔ z ∈ xs) ∧ ys.Nodup) fun ys => dL (ys.map dS)) := fun σ N H e s Q q =>
  h σ N H e s _ fun v N1 H1 x1 p => by
    obtain ⟨a, vs, rfl, ha, r⟩ := p
    rw [rep_str r] at ha
    exact ⟨a, xs, rfl, SqL.of (x1.s a _ ha), hl, hn, fun ys p h1 h2 hp => q _ _ _ (x1.trans (.new x1.s hp)) ⟨ys, ⟨h1, h2⟩, p, _, rfl, upd_same, rep_strs⟩⟩
theorem rc_dict {kvs : List (Str × V)} : RvC rDictC [dD kvs] (dD kvs) := fun vs N H s r Q q => by
  cases r with
  | cons h1 t =>
    cases t
    obtain ⟨a, rfl, ha⟩ := h1
    exact ⟨a, _, rfl, s a _ ha, fun p hp => q _ _ _ (.new s hp) ⟨p, rfl, upd_same⟩⟩
theorem rep_lls {N : Hp} : ∀ {l : List (List Str)} {vs : List V}, Rep N (l.map fun xs => dL (xs.map dS)) vs → ∃ as : List Addr, vs = as.map V.ref ∧ Paired (fun c us => N c = some (.lst us)) as (l.map fun xs => xs.map V.str)
  | [], _, .nil => ⟨[], rfl, .nil⟩
  | x :: l, _, .cons h t => by
    obtain ⟨as, e, q⟩ := rep_lls t
    obtain ⟨a, vs, rfl, ha, r⟩ := h
    rw [rep_str r] at ha
    exact ⟨a :: as, by rw [e]; rfl, .cons ha q⟩
theorem rc_sumL {l : List (List Str)} {ws : List Str} (h : ws.length + l.flatten.length ≤ 100000) : RvC rSumL [dL (l.map fun xs => dL (xs.map dS)), dL (ws.map dS)] (dL ((ws ++ l.flatten).map dS)) := fun vs N H s r Q q => by
  cases r with
  | cons h1 t => cases t with
    | cons h2 t =>
      cases t
      obtain ⟨a, vs, rfl, ha, r⟩ := h1
      obtain ⟨b, us, rfl, hb, r'⟩ := h2
      obtain ⟨as, e, pq⟩ := rep_lls r
      have e2 := rep_str r'
      subst e2
      have fl : (l.map fun xs => xs.map V.str).flatten = l.flatten.map V.str := by
        rw [List.map_flatten]
      refine ⟨a, b, as, _, _, rfl, by rw [← e]; exact s a _ ha, s b _ hb, Paired.mapP pq fun c us z => s c _ z, by rw [fl, List.length_map, List.length_map]; exact h, fun z => ?_, fun p hp => ?_⟩
      · have : l = [] := by simpa using z
        subst this
        exact q _ N H (.refl s) ⟨b, _, rfl, hb, by rw [List.flatten_nil, List.append_nil]; exact rep_strs⟩
      · rw [fl, ← List.map_append] at *
        exact q _ _ _ (.new s hp) ⟨p, _, rfl, upd_same, rep_strs⟩
/-- a local that holds a def -/
theorem ev_callA {i : Nat} {f : Addr} {S : Addr → Option Sp} {Φ : List Dn → Dn → Prop} {t : TA} (h : EvA t ρ ds) (hi : ρ[i]? = some (some (dV (.ref f)))) (hS : S f = some (spF Φ)) (hf : Φ ds d) : Ev (tCallA i S t) ρ d := fun σ N H e s Q q => by
  obtain ⟨v, h1, h2⟩ := e.all i _ hi
  cases (show v = V.ref f from h2)
  refine ⟨f, _, h1, hS, h σ N H e s _ fun vs N1 H1 x1 r => ⟨N1, ds, d, hf, x1.s, r, fun v N2 H2 x2 p => q v N2 H2 (x1.trans x2) p⟩⟩
end
section
variable {ρ : Ro} {o : Option Ow} {B : Bd} {z : TS} {K : PySem.W.Frag} {te tv ty : TE} {k i : Nat} {d : Dn} {ds : List Dn}
/-- xs.insert(i, e), xs one's own -/
theorem go_insert {n : Int} (hi : Ev ty ρ (dI n)) (h : Ev te ρ d) (hl : ds.length < 1000000) (hn : 0 ≤ n ∧ n < 2 ^ 63) (k1 : Go z ρ (some (oL k (ds.take n.toNat ++ [d] ++ ds.drop n.toNat))) B) :
    Go (tSeq (tDrop (tBM K "list" (fun x vs H Q => ∃ (l : Addr) (xs : List V) (i : Int) (y : V), x = .ref l ∧ vs = [.int i, y] ∧ H l = some (.lst xs) ∧ xs.length < sizeLine ∧ 0 ≤ i ∧ i < 2 ^ 63 ∧
      Q .non (upd H l (.lst (xs.take i.toNat ++ [y] ++ xs.drop i.toNat)))) (tVar k) (tCons ty (tCons te tNil)))) z) ρ (some (oL k ds)) B :=
  fun M N0 H0 σ N H D s b => by
    obtain ⟨v, hv, a, vs, rfl, h0, na0, hh, r⟩ := s.o _ rfl
    refine ⟨_, hv, .inl ⟨rfl, _, SqL.of hh⟩, hi σ N H s.e s.hk _ fun w N1 H1 x1 p1 => h σ N1 H1 (s.e.mono x1.n) x1.s _ fun v N' H' x2 p => ?_⟩
    cases (show w = V.int n from p1)
    have x := x1.trans x2
    have hh' : H' a = some (.lst vs) := x.h a _ hh
    have na : N' a = none := x.f a na0 (by rw [hh]; simp)
    refine ⟨a, vs, n, v, rfl, rfl, hh', by rw [← r.len, sizeLine_eq]; omega, hn.1, hn.2, ?_⟩
    have s' := s.step x
    refine k1 M N0 H0 σ N' _ D ⟨s'.m, ⟨s'.x.n, fun b u e => ?_, fun b u e => ?_, s'.x.f⟩, s'.e, fun w e => ?_⟩ b
    · rw [upd_ne (ne_of_none e na)]; exact x.s b u e
    · rw [upd_ne (ne_of_none e h0)]; exact s'.x.h b u e
    · cases e
      have r' := r.mono x.n
      exact ⟨_, hv, a, _, rfl, h0, na, upd_same, ((r'.take _).snoc p).app (r'.drop _)⟩
/-- xs.remove(x), xs one's own, x in it -/
theorem go_remove {xs : List Str} {x : Str} (h : Ev te ρ (dS x)) (hx : x ∈ xs) (k1 : Go z ρ (some (oL k ((xs.erase x).map dS))) B) :
    Go (tSeq (tDrop (tBM K "list" rRemS (tVar k) (tCons te tNil))) z) ρ (some (oL k (xs.map dS))) B :=
  fun M N0 H0 σ N H D s b => by
    obtain ⟨v, hv, a, vs, rfl, h0, na0, hh, r⟩ := s.o _ rfl
    refine ⟨_, hv, .inl ⟨rfl, _, SqL.of hh⟩, h σ N H s.e s.hk _ fun v N' H' x p => ?_⟩
    cases (show v = V.str _ from p)
    rw [rep_str r] at hh
    have hh' : H' a = some (.lst _) := x.h a _ hh
    have na : N' a = none := x.f a na0 (by rw [hh]; simp)
    refine ⟨a, xs, _, rfl, rfl, hh', hx, ?_⟩
    have s' := s.step x
    refine k1 M N0 H0 σ N' _ D ⟨s'.m, ⟨s'.x.n, fun b u e => ?_, fun b u e => ?_, s'.x.f⟩, s'.e, fun w e => ?_⟩ b
    · rw [upd_ne (ne_of_none e na)]; exact x.s b u e
    · rw [upd_ne (ne_of_none e h0)]; exact s'.x.h b u e
    · cases e
      exact ⟨_, hv, a, _, rfl, h0, na, upd_same, rep_strs⟩
/-! an own dict -/
theorem go_asgD (k1 : Go z (ρ.set i none) (some (oD i [])) B) (hi : i < ρ.length := by first | exact Nat.le_of_ble_eq_true rfl | decide) : Go (tSeq (tAsg tDNewK (gName i)) z) ρ o B :=
  fun M N0 H0 σ N H D s b => fun p hp => by
    have x : Nx N H N (upd H p (.dK [])) := .own s.hk hp
    refine k1 M N0 H0 _ N _ D ⟨s.m, s.x.trans x, s.e.none, fun w e => ?_⟩ b
    cases e
    exact ⟨.ref p, List.getElem?_set_self (by rw [← s.e.len]; exact hi), p, rfl, s.x.h.free hp, s.hk.free hp, upd_same⟩
theorem own_fzD {M N0 H0 N H : Hp} {σ : SSt} {kvs : List (Str × V)} (s : Sx M N0 H0 ρ (some (oD k kvs)) σ N H) : ∃ N1, En (ρ.set k (some (dD kvs))) σ N1 ∧ Same N1 H ∧ Same N N1 := by
  obtain ⟨v, hv, a, rfl, h0, n, h⟩ := s.o _ rfl
  have hv : σ[k]? = some (some (.ref a)) := hv
  have s1 : Same N (upd N a (.dK (kvs.map fun p => (Sum.inr p.1, p.2)))) := fun b u e => by rw [upd_ne (ne_of_none e n)]; exact e
  have q := (s.e.mono s1).set (i := k) (d := dD kvs) (v := .ref a) ⟨a, rfl, upd_same⟩
  have e1 : σ.set k (some (.ref a)) = σ := by
    refine List.ext_getElem? fun j => ?_
    by_cases hj : k = j
    · subst hj
      rw [hv, List.getElem?_set_self (List.getElem?_eq_some_iff.mp hv).1]
    · rw [List.getElem?_set_ne hj]
  rw [e1] at q
  refine ⟨_, q, fun b u e => ?_, s1⟩
  by_cases hb : b = a
  · subst hb; rw [upd_same] at e; rw [← e]; exact h
  · rw [upd_ne hb] at e; exact s.hk b u e
theorem go_ifFD {c : TT} {t u : TS} {kvs : List (Str × V)} {b : Bool} (h : EvT c (ρ.set k (some (dD kvs))) b) (h1 : b = true → Go (tSeq t z) ρ (some (oD k kvs)) B) (h2 : b = false → Go (tSeq u z) ρ (some (oD k kvs)) B) : Go (tSeq (tIfS c t u) z) ρ (some (oD k kvs)) B :=
  fun M N0 H0 σ N H D s bb => by
    obtain ⟨N1, e, s1, s2⟩ := own_fzD s
    refine h σ N1 H e s1 _ fun N' H' x => ?_
    have y : Nx N H N H' := Nx.less s.hk x
    cases b with
    | true => exact (if_pos rfl).mpr (h1 rfl M N0 H0 σ N H' D (s.step y) bb)
    | false => exact (if_neg Bool.false_ne_true).mpr (h2 rfl M N0 H0 σ N H' D (s.step y) bb)
theorem go_tellD {kvs : List (Str × V)} (h : Go z (ρ.set k (some (dD kvs))) none B) : Go z ρ (some (oD k kvs)) B := fun M N0 H0 σ N H D s b => by
  obtain ⟨v, hv, a, rfl, h0, n, hh⟩ := s.o _ rfl
  have hv : σ[k]? = some (some (.ref a)) := hv
  have s1 : Same N (upd N a (.dK (kvs.map fun p => (Sum.inr p.1, p.2)))) := fun b u e => by rw [upd_ne (ne_of_none e n)]; exact e
  have q := (s.e.mono s1).set (i := k) (d := dD kvs) (v := .ref a) ⟨a, rfl, upd_same⟩
  have e1 : σ.set k (some (.ref a)) = σ := by
    refine List.ext_getElem? fun j => ?_
    by_cases hj : k = j
    · subst hj
      rw [hv, List.getElem?_set_self (List.getElem?_eq_some_iff.mp hv).1]
    · rw [List.getElem?_set_ne hj]
  rw [e1] at q
  exact h M N0 H0 σ _ H D ⟨s.m.trans s1, s.x.tell h0 hh n, q, fun _ e => nomatch e⟩ b
theorem putS_any {x : Str} : ∀ {kvs : List (Str × V)}, kvs.lookup x = none → ((kvs.map fun p => ((Sum.inr p.1 : Key), p.2)).any fun kv => decide (kv.1 = Sum.inr x)) = false
  | [], _ => rfl
  | (y, u) :: kvs, h => by
    have hn : y ≠ x := fun e => by subst e; simp [List.lookup_cons] at h
    have h2 : (x == y) = false := by simpa [beq_eq_false_iff_ne] using fun z : x = y => hn z.symm
    rw [List.lookup_cons, h2] at h
    rw [List.map_cons, List.any_cons, putS_any h, Bool.or_false]
    exact decide_eq_false fun z => hn (Sum.inr.inj z)
theorem putS_new {x : Str} {v : V} {kvs : List (Str × V)} (h : kvs.lookup x = none) : putK (kvs.map fun p => ((Sum.inr p.1 : Key), p.2)) (Sum.inr x) v = (kvs ++ [(x, v)]).map fun p => ((Sum.inr p.1 : Key), p.2) := by
  unfold putK
  rw [if_neg (by rw [putS_any h]; decide), List.map_append]
  rfl
theorem go_dput {kvs : List (Str × V)} {x : Str} {w : V} (hx : Ev ty ρ (dS x)) (hw : Ev tv ρ (dV w)) (hl : kvs.length < 1000000) (hn : kvs.lookup x = none) (k1 : Go z ρ (some (oD k (kvs ++ [(x, w)]))) B) :
    Go (tSeq (sDPut (tVar k) ty tv) z) ρ (some (oD k kvs)) B :=
  fun M N0 H0 σ N H D s b => by
    obtain ⟨v, hv, a, rfl, h0, na0, hh⟩ := s.o _ rfl
    refine hw σ N H s.e s.hk _ fun v1 N1 H1 x1 p1 => ⟨_, hv, hx σ N1 H1 (s.e.mono x1.n) x1.s _ fun v2 N2 H2 x2 p2 => ?_⟩
    cases (show v1 = w from p1)
    cases (show v2 = V.str x from p2)
    have y := x1.trans x2
    have hh' := y.h a _ hh
    have na : N2 a = none := y.f a na0 (by rw [hh]; simp)
    refine ⟨a, _, rfl, DPut.k (k := Sum.inr x) hh' (by rw [List.length_map, sizeLine_eq]; omega), ?_⟩
    rw [putS_new hn]
    have s' := s.step y
    refine k1 M N0 H0 σ N2 _ D ⟨s'.m, ⟨s'.x.n, fun b u e => ?_, fun b u e => ?_, s'.x.f⟩, s'.e, fun w e => ?_⟩ b
    · rw [upd_ne (ne_of_none e na)]; exact y.s b u e
    · rw [upd_ne (ne_of_none e h0)]; exact s'.x.h b u e
    · cases e
      exact ⟨_, hv, a, rfl, h0, na, upd_same⟩
end
/-! a dict that is walked: locked for so long -/
def dDf (od : Obj) (kvs : List (Str × V)) : Dn := ⟨fun v N => ∃ a, v = .ref a ∧ N a = some (.frz od (.dK (kvs.map fun p => (Sum.inr p.1, p.2)))), fun _ _ _ s ⟨a, e, h⟩ => ⟨a, e, s a _ h⟩⟩
theorem go_lockE {ts : TS} {kvs : List (Str × V)} (h : ∀ od, Go ts [some (dDf od kvs), none] none Bend) : Go (tSeq (tLock ts) tNext) [some (dD kvs), none] none Bend := fun M N0 H0 σ N H D s b => by
  obtain ⟨v, hv, a, rfl, ha⟩ := s.e.all 0 _ rfl
  have ha' := s.hk a _ ha
  refine ⟨a, _, ha', trivial, fun od => ?_⟩
  let H1 := upd H a (.frz od (.dK (kvs.map fun p => (Sum.inr p.1, p.2))))
  let N1 : Hp := upd (fun _ => none) a (.frz od (.dK (kvs.map fun p => (Sum.inr p.1, p.2))))
  have s1 : Same N1 H1 := fun c u e => by
    by_cases hc : c = a
    · subst hc
      rw [show N1 c = _ from upd_same] at e
      rw [show H1 c = _ from upd_same]
      exact e
    · rw [show N1 c = _ from upd_ne hc] at e
      cases e
  have e1 : En [some (dDf od kvs), none] σ N1 := by
    refine ⟨s.e.len, fun i d hi => ?_⟩
    match i, hi with
    | 0, hi =>
      cases hi
      exact ⟨_, hv, a, rfl, upd_same⟩
    | 1, hi => cases hi
    | i + 2, hi => cases hi
  refine h od N1 N1 H1 σ N1 H1 _ ⟨Same.refl _, .refl s1, e1, fun _ e => nomatch e⟩ fun σ' N' H' x => ?_
  have hH : H' a = _ := x.h a _ upd_same
  refine ⟨hH, b σ' N _ ⟨s.x.n, fun c u e => ?_, fun c u e => ?_, s.x.f⟩⟩
  · by_cases hc : c = a
    · subst hc
      rw [ha] at e
      rw [upd_same]
      exact e
    · rw [upd_ne hc]
      exact x.h c _ ((upd_ne hc).trans (s.hk c u e))
  · by_cases hc : c = a
    · subst hc
      have := s.x.h c u e
      rw [ha'] at this
      rw [upd_same]
      exact this
    · rw [upd_ne hc]
      exact x.h c _ ((upd_ne hc).trans (s.x.h c u e))
theorem wi_keysF {ρ : Ro} {te : TE} {od : Obj} {kvs : List (Str × V)} (h : Ev te ρ (dDf od kvs)) : Wi (iKeys te) ρ (kvs.map fun p => dS p.1) := fun σ N H e s R q => h σ N H e s _ fun v N' H' x p => by
  obtain ⟨a, rfl, ha⟩ := p
  refine ⟨a, od, rfl, .inl ⟨_, x.s a _ ha, q _ N' H' _ _ x (by rw [List.length_map, ← List.length_map (f := fun p : Str × V => ((Sum.inr p.1 : Key), p.2))]; exact walk_keys) (fun H2 s2 => s2 a _ ha) fun i d hd N2 H2 y H3 s2 s3 hy => ?_⟩⟩
  obtain ⟨rfl, k, v, h1, rfl⟩ := hy
  rw [List.getElem?_map] at h1 hd
  cases hk : kvs[i]? with
  | none => rw [hk] at h1; cases h1
  | some p =>
    rw [hk] at h1 hd
    cases h1
    cases hd
    exact ⟨N2, .refl s3, rfl⟩
theorem ev_dgetF {ρ : Ro} {td ty : TE} {od : Obj} {kvs : List (Str × V)} {x : Str} {w : V} {z : Dn} (hd : Ev td ρ (dDf od kvs)) (hx : Ev ty ρ (dS x)) (hw : kvs.lookup x = some w) (hz : ∀ N, z.p w N) : Ev (tDGet td ty) ρ z := fun σ N H en s Q q =>
  hd σ N H en s _ fun v N1 H1 x1 p1 => hx σ N1 H1 (en.mono x1.n) x1.s _ fun v2 N2 H2 x2 p2 => by
    obtain ⟨a, rfl, ha⟩ := p1
    cases (show v2 = V.str x from p2)
    refine ⟨a, w, rfl, .inl ⟨_, Sum.inr x, .inr ⟨od, x2.h a _ (x1.s a _ ha)⟩, rfl, ?_⟩, q _ N2 H2 (x1.trans x2) (hz N2)⟩
    rw [valS_eq, hw]
/-! == of data -/
def DD (d : Dn) (x : PyData) : Prop := ∀ (K : PySem.W.Frag) (v : V) (N H : Hp), Same N H → d.p v N → Dp K H v x
theorem dd_int {i : Int} : DD (dI i) (.int i) := fun K v N H s h => by cases (show v = V.int i from h); exact .int i
theorem dd_str {i : Str} : DD (dS i) (.str i) := fun K v N H s h => by cases (show v = V.str i from h); exact .str i
theorem dd_all {α : Type} {δ : α → Dn} {f : α → PyData} : ∀ {xs : List α}, (∀ x ∈ xs, DD (δ x) (f x)) → ∀ (K : PySem.W.Frag) (vs : List V) (N H : Hp), Same N H → Rep N (xs.map δ) vs → DpAll K H vs (xs.map f)
  | [], _, K, _, N, H, s, .nil => .nil
  | x :: xs, h, K, _, N, H, s, .cons p t => .cons (h x List.mem_cons_self K _ N H s p) (dd_all (fun y hy => h y (List.mem_cons_of_mem _ hy)) K _ N H s t)
theorem dd_lst {α : Type} {δ : α → Dn} {f : α → PyData} {xs : List α} (h : ∀ x ∈ xs, DD (δ x) (f x)) : DD (dL (xs.map δ)) (.list (xs.map f)) := fun K v N H s ⟨a, vs, e, ha, r⟩ => by
  subst e
  exact .lst (SqL.of (s a _ ha)) (dd_all h K vs N H s r)
theorem dd_nil : DD (dL []) (.list []) := fun K v N H s ⟨a, vs, e, ha, r⟩ => by
  subst e
  cases r
  exact .lst (SqL.of (s a _ ha)) .nil
theorem dd_tup2 {d e : Dn} {x y : PyData} (h1 : DD d x) (h2 : DD e y) : DD (dT [d, e]) (.tuple [x, y]) := fun K v N H s ⟨a, vs, e, ha, r⟩ => by
  subst e
  cases r with
  | cons r1 r => cases r with
    | cons r2 r => cases r; exact .tup (SqT.of (s a _ ha)) (.cons (h1 K _ N H s r1) (.cons (h2 K _ N H s r2) .nil))
theorem dd_tup3 {d e g : Dn} {x y z : PyData} (h1 : DD d x) (h2 : DD e y) (h3 : DD g z) : DD (dT [d, e, g]) (.tuple [x, y, z]) := fun K v N H s ⟨a, vs, e, ha, r⟩ => by
  subst e
  cases r with
  | cons r1 r => cases r with
    | cons r2 r => cases r with
      | cons r3 r => cases r; exact .tup (SqT.of (s a _ ha)) (.cons (h1 K _ N H s r1) (.cons (h2 K _ N H s r2) (.cons (h3 K _ N H s r3) .nil)))
/-- data that may be compared: its shape -/
def Shp (n : Nat) (d : PyData) : Prop := d.canLay0 = true ∧ d.depth ≤ n
theorem shp_int {i : Int} : Shp 0 (.int i) := ⟨by simp only [PyData.canLay0], by simp only [PyData.depth]; omega⟩
theorem canAll : ∀ {xs : List PyData}, (∀ x ∈ xs, x.canLay0 = true) → PyData.canLayAll0 xs = true
  | [], _ => by simp only [PyData.canLayAll0]
  | x :: xs, h => by
    simp only [PyData.canLayAll0, h x List.mem_cons_self, canAll fun y hy => h y (List.mem_cons_of_mem _ hy), Bool.and_self]
theorem depAll {n : Nat} : ∀ {xs : List PyData}, (∀ x ∈ xs, x.depth ≤ n) → PyData.depthAll xs ≤ n
  | [], _ => by simp only [PyData.depthAll]; omega
  | x :: xs, h => by
    have h1 := h x List.mem_cons_self
    have h2 := depAll fun y hy => h y (List.mem_cons_of_mem _ hy)
    simp only [PyData.depthAll]
    omega
theorem shp_lst {n : Nat} {xs : List PyData} (h : ∀ x ∈ xs, Shp n x) : Shp (n + 1) (.list xs) := ⟨by simp only [PyData.canLay0]; exact canAll fun x hx => (h x hx).1, by
  have := depAll fun x hx => (h x hx).2
  simp only [PyData.depth]
  omega⟩
theorem shp_tup {n : Nat} {xs : List PyData} (h : ∀ x ∈ xs, Shp n x) : Shp (n + 1) (.tuple xs) := ⟨by simp only [PyData.canLay0]; exact canAll fun x hx => (h x hx).1, by
  have := depAll fun x hx => (h x hx).2
  simp only [PyData.depth]
  omega⟩
theorem Shp.up {m n : Nat} {d : PyData} (h : Shp m d) (l : m ≤ n) : Shp n d := ⟨h.1, Nat.le_trans h.2 l⟩
theorem Shp.sh {n : Nat} {d : PyData} (h : Shp n d) (l : n ≤ 64) : SeqAt.shaped d = true := Bool.and_eq_true_iff.mpr ⟨h.1, decide_eq_true (Nat.le_trans h.2 l)⟩
theorem shp_nil : Shp 1 (.list []) := shp_lst fun _ h => nomatch h
theorem rv_eqD {K : PySem.W.Frag} {d e : Dn} {x y : PyData} {b : Bool} {m n : Nat} (h1 : DD d x) (h2 : DD e y) (s1 : Shp m x) (s2 : Shp n y) (hb : PyData.eqv x y = b) (hm : m ≤ 64 := by decide) (hn : n ≤ 64 := by decide) : RvR (rEqD K) d e (dB b) := fun u v N H s hx hy Q q =>
  ⟨x, y, h1 K u N H s hx, h2 K v N H s hy, s1.sh hm, s2.sh hn, by rw [hb]; exact q _ N H (.refl s) rfl⟩
theorem rv_neD {K : PySem.W.Frag} {d e : Dn} {x y : PyData} {b : Bool} {m n : Nat} (h1 : DD d x) (h2 : DD e y) (s1 : Shp m x) (s2 : Shp n y) (hb : PyData.eqv x y = b) (hm : m ≤ 64 := by decide) (hn : n ≤ 64 := by decide) : RvR (rNeD K) d e (dB (!b)) := fun u v N H s hx hy Q q =>
  ⟨x, y, h1 K u N H s hx, h2 K v N H s hy, s1.sh hm, s2.sh hn, by rw [hb]; exact q _ N H (.refl s) rfl⟩
theorem eqv_all {α : Type} [DecidableEq α] {f : α → PyData} (h : ∀ x y, PyData.eqv (f x) (f y) = decide (x = y)) : ∀ xs ys : List α, PyData.eqvAll (xs.map f) (ys.map f) = decide (xs = ys)
  | [], [] => by simp [PyData.eqvAll]
  | x :: xs, [] => by simp [PyData.eqvAll]
  | [], y :: ys => by simp [PyData.eqvAll]
  | x :: xs, y :: ys => by
    rw [List.map_cons, List.map_cons, PyData.eqvAll, h x y, eqv_all h xs ys]
    simp
theorem eqv_lst {α : Type} [DecidableEq α] {f : α → PyData} (h : ∀ x y, PyData.eqv (f x) (f y) = decide (x = y)) (xs ys : List α) : PyData.eqv (.list (xs.map f)) (.list (ys.map f)) = decide (xs = ys) := by
  rw [PyData.eqv, eqv_all h]
theorem eqv_lnil {α : Type} {f : α → PyData} (xs : List α) : PyData.eqv (.list (xs.map f)) (.list []) = xs.isEmpty := by
  cases xs <;> simp [PyData.eqv, PyData.eqvAll]
theorem eqv_int (x y : Int) : PyData.eqv (.int x) (.int y) = decide (x = y) := by
  simp only [PyData.eqv]
  by_cases h : x = y <;> simp [h]
theorem eqv_str (x y : Str) : PyData.eqv (.str x) (.str y) = decide (x = y) := by
  simp only [PyData.eqv]
  by_cases h : x = y <;> simp [h]
end Mu
/-! Walks by index; the pairs. -/
namespace Mu
open PySem PySem.Spec PyProof.Rows L2
abbrev gt {α : Type} [Inhabited α] (xs : List α) (i : Nat) : α := (xs[i]?).getD default
theorem gt_lt {α : Type} [Inhabited α] {xs : List α} {i : Nat} (h : i < xs.length) : xs[i]? = some (gt xs i) := by
  rw [gt, List.getElem?_eq_getElem h]; rfl
theorem gt_mem {α : Type} [Inhabited α] {xs : List α} {i : Nat} (h : i < xs.length) : gt xs i ∈ xs := by
  rw [gt, List.getElem?_eq_getElem h]
  exact List.getElem_mem h
theorem gt_take {α : Type} [Inhabited α] {xs : List α} {i j : Nat} (h : i < j) : gt (xs.take j) i = gt xs i := by
  rw [gt, List.getElem?_take, if_pos h]
theorem map_gt {α β : Type} [Inhabited α] (xs : List α) (f : α → β) : (List.range xs.length).map (fun i => f (gt xs i)) = xs.map f := by
  refine List.ext_getElem? fun i => ?_
  rw [List.getElem?_map, List.getElem?_map]
  by_cases h : i < xs.length
  · simp [h, gt]
  · simp [h]
theorem wi_is {wi : TI} {ρ : Ro} {ds es : List Dn} (h : Wi wi ρ ds) (e : ds = es) : Wi wi ρ es := e ▸ h
theorem zip_range {α β : Type} [Inhabited α] (xs : List α) (f : α × Nat → β) : xs.zipIdx.map f = (List.range xs.length).map fun i => f (gt xs i, i) := by
  refine List.ext_getElem? fun i => ?_
  rw [List.getElem?_map, List.getElem?_map, List.getElem?_zipIdx]
  by_cases h : i < xs.length
  · simp [h, gt]
  · simp [h]
theorem zip_range2 {α β γ : Type} [Inhabited α] [Inhabited β] (xs : List α) (ys : List β) (hl : xs.length = ys.length) (f : α × β → γ) : (xs.zip ys).map f = (List.range xs.length).map fun i => f (gt xs i, gt ys i) := by
  refine List.ext_getElem? fun i => ?_
  rw [List.getElem?_map, List.getElem?_map]
  by_cases h : i < xs.length
  · have h2 : i < ys.length := by omega
    rw [List.getElem?_eq_getElem (by rw [List.length_zip]; omega), List.getElem_zip]
    simp [h, h2, gt]
  · rw [List.getElem?_eq_none (by rw [List.length_zip]; omega)]
    simp [h]
section
variable {ρ : Ro} {K : PySem.W.Frag} {ta : TA}
theorem wi_tup {te : TE} {ds : List Dn} (h : Ev te ρ (dT ds)) : Wi (iTup K te) ρ ds := fun σ N H e s R q => h σ N H e s _ fun v N' H' x p => by
  obtain ⟨a, vs, rfl, ha, r⟩ := p
  refine ⟨a, rfl, ⟨vs, SqT.of (x.s a _ ha)⟩, q _ N' H' _ _ x (r.len ▸ walk_tup (xs := vs)) (fun H2 s2 => SqT.of (s2 a _ ha)) fun i d hd N2 H2 y H3 s2 s3 hy => ?_⟩
  obtain ⟨rfl, hy⟩ := hy
  obtain ⟨v, hv, p⟩ := r.at hd
  rw [hv] at hy
  cases hy
  exact ⟨N2, .refl s3, d.mono _ _ _ s2 p⟩
theorem wi_enumR {α : Type} [Inhabited α] {xs : List α} {δ : α → Dn} (h : EvA ta ρ [dL (xs.map δ)]) : Wi (iEnum K ta) ρ ((List.range xs.length).map fun i : Nat => dT [dI i, δ (gt xs i)]) := wi_is (wi_enum h) (zip_range xs _)
theorem wi_zipR {α β : Type} [Inhabited α] [Inhabited β] {xs : List α} {ys : List β} {δ : α → Dn} {ε : β → Dn} (hl : xs.length = ys.length) (h : EvA ta ρ [dL (xs.map δ), dL (ys.map ε)]) : Wi (iZip K ta) ρ ((List.range xs.length).map fun i => dT [δ (gt xs i), ε (gt ys i)]) := wi_is (wi_zip h) (zip_range2 xs ys hl _)
theorem wi_range1N {n : Nat} (h : EvA ta ρ [dI (n : Int)]) (h1 : n < 1000000) : Wi (iRng1 ta) ρ ((List.range n).map fun k : Nat => dI (k : Int)) := wi_range1 (n := (n : Int)) h (by omega) (by omega)
theorem wi_range2N {m n : Nat} (h : EvA ta ρ [dI (m : Int), dI (n : Int)]) (h1 : m < 1000000 ∧ n < 1000000) : Wi (iRng2 ta) ρ ((List.range (n - m)).map fun k : Nat => dI ((m + k : Nat) : Int)) :=
  wi_is (wi_range2 (m := (m : Int)) (n := (n : Int)) h (by omega)) (by
    rw [show ((n : Int) - (m : Int)).toNat = n - m by omega]
    rfl)
end
theorem atI_nat {α : Type} {xs : List α} {i : Nat} {x : α} (h : xs[i]? = some x) : atI xs (i : Int) = some x := by
  have hi := (List.getElem?_eq_some_iff.mp h).1
  unfold atI
  rw [show ixN xs.length (i : Int) = some i by
    unfold ixN
    simp
    omega]
  exact h
theorem atI_gt {α : Type} [Inhabited α] {xs : List α} {i : Nat} (δ : α → Dn) (h : i < xs.length) : atI (xs.map δ) (i : Int) = some (δ (gt xs i)) := atI_map (atI_nat (gt_lt h))
theorem go_ifJ0 {c : TT} {t u z : TS} {ρ : Ro} {o : Option Ow} {B : Bd} {b : Bool} (ρ' : Ro) (h : EvT c ρ b) (h1 : b = true → Go t ρ o (Bnx ρ' o)) (h2 : b = false → Go u ρ o (Bnx ρ' o)) (k : Go z ρ' o B) : Go (tSeq (tIfS c t u) z) ρ o B := go_ifJ ρ' o h h1 h2 k
theorem ok_k {α : Type} {k : Nat} {js : List Nat} {O : List α → List Dn} (h : k ∉ js := by decide) : ∀ l w, some (oL k (O l)) = some w → w.k ∉ js := fun _ _ e => by cases e; exact h
theorem _root_.L2.Room.u66 {k : Nat} {A : Around} (r : Room k A) : A.units + 66 < cLine := by
  have := r.un
  omega
theorem ok_n {α : Type} {js : List Nat} : ∀ (l : List α) (w : Ow), none = some w → w.k ∉ js := fun _ _ e => nomatch e
theorem ol_snoc {α : Type} {D : α → Dn} {k : Nat} {xs : List α} {x : α} {d : Dn} (h : d = D x) : some (oL k (xs.map D ++ [d])) = some (oL k ((xs ++ [x]).map D)) := by
  rw [h, List.map_append]; rfl
/-! the pairs -/
def IJ (n : Nat) : List (Nat × Nat) := (List.range n).flatMap fun i => (List.range (n - (i + 1))).map fun k => (i, i + 1 + k)
def JI (n : Nat) : List (Nat × Nat) := (List.range n).flatMap fun j => (List.range j).map fun i => (i, j)
theorem mem_IJ {n : Nat} {p : Nat × Nat} : p ∈ IJ n ↔ p.1 < p.2 ∧ p.2 < n := by
  unfold IJ
  rw [List.mem_flatMap]
  constructor
  · rintro ⟨i, hi, h⟩
    rw [List.mem_map] at h
    obtain ⟨k, hk, rfl⟩ := h
    rw [List.mem_range] at hi hk
    exact ⟨by show i < i + 1 + k; omega, by show i + 1 + k < n; omega⟩
  · intro ⟨h1, h2⟩
    refine ⟨p.1, by rw [List.mem_range]; omega, ?_⟩
    rw [List.mem_map]
    exact ⟨p.2 - (p.1 + 1), by rw [List.mem_range]; omega, Prod.ext rfl (by show p.1 + 1 + (p.2 - (p.1 + 1)) = p.2; omega)⟩
theorem mem_JI {n : Nat} {p : Nat × Nat} : p ∈ JI n ↔ p.1 < p.2 ∧ p.2 < n := by
  unfold JI
  rw [List.mem_flatMap]
  constructor
  · rintro ⟨j, hj, h⟩
    rw [List.mem_map] at h
    obtain ⟨i, hi, rfl⟩ := h
    rw [List.mem_range] at hi hj
    exact ⟨hi, hj⟩
  · intro ⟨h1, h2⟩
    refine ⟨p.2, by rw [List.mem_range]; omega, ?_⟩
    rw [List.mem_map]
    exact ⟨p.1, by rw [List.mem_range]; omega, rfl⟩
theorem nd_flat {α β : Type} {f : α → List β} (g : β → α) (hg : ∀ a b, b ∈ f a → g b = a) (hf : ∀ a, (f a).Nodup) : ∀ {xs : List α}, xs.Nodup → (xs.flatMap f).Nodup
  | [], _ => List.nodup_nil
  | x :: xs, h => by
    rw [List.flatMap_cons, List.nodup_append]
    rw [List.nodup_cons] at h
    refine ⟨hf x, nd_flat g hg hf h.2, fun a ha b hb e => ?_⟩
    subst e
    rw [List.mem_flatMap] at hb
    obtain ⟨y, hy, hb⟩ := hb
    have := hg x a ha
    have := hg y a hb
    exact h.1 (by rw [← hg x a ha, hg y a hb]; exact hy)
theorem nd_map {α β : Type} {f : α → β} (hf : ∀ a b, f a = f b → a = b) : ∀ {xs : List α}, xs.Nodup → (xs.map f).Nodup
  | [], _ => List.nodup_nil
  | x :: xs, h => by
    rw [List.nodup_cons] at h
    rw [List.map_cons, List.nodup_cons]
    refine ⟨fun hm => ?_, nd_map hf h.2⟩
    obtain ⟨y, hy, e⟩ := List.mem_map.mp hm
    rw [hf _ _ e] at hy
    exact h.1 hy
theorem nd_IJ (n : Nat) : (IJ n).Nodup := by
  refine nd_flat (fun p => p.1) (fun a b hb => ?_) (fun a => ?_) List.nodup_range
  · obtain ⟨k, _, e⟩ := List.mem_map.mp hb
    rw [← e]
  · exact nd_map (fun x y e => by
      have : a + 1 + x = a + 1 + y := congrArg Prod.snd e
      omega) List.nodup_range
theorem nd_JI (n : Nat) : (JI n).Nodup := by
  refine nd_flat (fun p => p.2) (fun a b hb => ?_) (fun a => ?_) List.nodup_range
  · obtain ⟨k, _, e⟩ := List.mem_map.mp hb
    rw [← e]
  · exact nd_map (fun x y e => congrArg Prod.fst e) List.nodup_range
theorem IJ_JI (n : Nat) : (IJ n).Perm (JI n) := (List.perm_ext_iff_of_nodup (nd_IJ n) (nd_JI n)).mpr fun p => by rw [mem_IJ, mem_JI]
theorem IJ_fm {β : Type} (n : Nat) (P : Nat × Nat → Bool) (G : Nat × Nat → β) : ((IJ n).filter P).map G = (List.range n).flatMap fun i => ((List.range (n - (i + 1))).filter fun k => P (i, i + 1 + k)).map fun k => G (i, i + 1 + k) := by
  unfold IJ
  rw [List.filter_flatMap, List.map_flatMap]
  congr 1
  funext i
  rw [List.filter_map, List.map_map]
  rfl
theorem JI_fm {β : Type} (n : Nat) (P : Nat × Nat → Bool) (G : Nat × Nat → β) : ((JI n).filter P).map G = (List.range n).flatMap fun j => ((List.range j).filter fun i => P (i, j)).map fun i => G (i, j) := by
  unfold JI
  rw [List.filter_flatMap, List.map_flatMap]
  congr 1
  funext i
  rw [List.filter_map, List.map_map]
  rfl
theorem fm_len {α β : Type} {xs : List α} {f : α → List β} {n : Nat} (h : ∀ a ∈ xs, (f a).length ≤ n) : (xs.flatMap f).length ≤ xs.length * n := by
  induction xs with
  | nil => simp
  | cons x xs ih =>
    rw [List.flatMap_cons, List.length_append, List.length_cons, Nat.add_mul, Nat.one_mul]
    have := h x List.mem_cons_self
    have := ih fun a ha => h a (List.mem_cons_of_mem _ ha)
    omega
theorem pre_len {α : Type} {xs pre post : List α} {b : α} (e : xs = pre ++ b :: post) : pre.length < xs.length ∧ b ∈ xs := by
  subst e
  refine ⟨by rw [List.length_append, List.length_cons]; omega, List.mem_append_right _ List.mem_cons_self⟩
theorem fil_snoc {α β : Type} {P : α → Bool} {G : α → β} {pre : List α} {b : α} (h : P b = true) : ((pre ++ [b]).filter P).map G = (pre.filter P).map G ++ [G b] := by
  rw [List.filter_append, List.map_append, List.filter_cons_of_pos h]; rfl
theorem fil_skip {α β : Type} {P : α → Bool} {G : α → β} {pre : List α} {b : α} (h : P b = false) : ((pre ++ [b]).filter P).map G = (pre.filter P).map G := by
  rw [List.filter_append, List.filter_cons_of_neg (by rw [h]; decide), List.filter_nil, List.append_nil]
theorem fm_snoc {α β : Type} {F : α → List β} {pre : List α} {b : α} : (pre ++ [b]).flatMap F = pre.flatMap F ++ F b := by
  rw [List.flatMap_append, List.flatMap_cons, List.flatMap_nil, List.append_nil]
theorem fil_le {α β : Type} {P : α → Bool} {G : α → β} {pre : List α} : ((pre.filter P).map G).length ≤ pre.length := by
  rw [List.length_map]; exact List.length_filter_le _ _
theorem range_len {n : Nat} {pre post : List Nat} {b : Nat} (e : List.range n = pre ++ b :: post) : pre.length < n ∧ b < n := by
  obtain ⟨h1, h2⟩ := pre_len e
  rw [List.length_range] at h1
  rw [List.mem_range] at h2
  exact ⟨h1, h2⟩
end Mu
/-! == and != of a list of data and dicts. -/
namespace PySem.SeqAt
open AutoSeq1 (wpAny_loadPart')
open MeetsSeq MeetsSeq2 MeetsSeq3 SeqRoads2
section
variable {prog : Program} {w : World}
theorem mu_ne_loop (p q : Addr) (us ws : Array Value) (m m2 : Nat) (d1 d2 : Option Addr) (t1 t2 : Array (Option Value)) (sz : us.size = ws.size) (r : Nat → Bool) (k : Nat) :
    ∀ i : Nat, us.size - i = k → MeetsIn prog w (Builtin.«list.__eq__.loop» ⟨[.ref p, .ref q, rawInt i, rawInt 3], []⟩)
      (fun A R s => s.heap.get? p = some { cls := .type "list", dict := d1, data := .seq us m, slots := t1 } ∧ s.heap.get? q = some { cls := .type "list", dict := d2, data := .seq ws m2, slots := t2 } ∧
        (∀ j (g1 : j < us.size) (g2 : j < ws.size), EqP prog w A.in1 s us[j] ws[j] (r j)) ∧
        R (.ok (.ret (.bool (!((List.range us.size).drop i).all r)))) s) := by
  induction k with
  | zero =>
    intro i hk A R s h
    obtain ⟨hh, gg, dd, tt, oo⟩ := s
    obtain ⟨gp, gq, ge, gr⟩ := h
    wp_walk using wpAny_loadPart' gp, wpAny_loadPart' gq
    have n1 : us[((i : Nat) : Int).toNat]? = none := by
      simp; omega
    have n2 : ws[((i : Nat) : Int).toNat]? = none := by
      simp; omega
    have nd : (List.range us.size).drop i = [] := by
      simp; omega
    rw [nd] at gr
    rw [n1, n2]
    wp_walk using wpAny_loadPart' gp, wpAny_loadPart' gq
    show R (.ok (.ret (.bool (us.size != ws.size)))) _
    rw [sz]
    simpa using gr
  | succ k ih =>
    intro i hk A R s h
    obtain ⟨hh, gg, dd, tt, oo⟩ := s
    obtain ⟨gp, gq, ge, gr⟩ := h
    wp_walk using wpAny_loadPart' gp, wpAny_loadPart' gq
    have l1 : i < us.size := by omega
    have l2 : i < ws.size := by omega
    have n1 : us[((i : Nat) : Int).toNat]? = some us[i] := by
      simp [l1]
    have n2 : ws[((i : Nat) : Int).toNat]? = some ws[i] := by
      simp [l2]
    have nd : (List.range us.size).drop i = i :: (List.range us.size).drop (i + 1) := by
      simp [List.drop_eq_getElem_cons, l1]
    have nc : ((i : Int) + 1) = ((i + 1 : Nat) : Int) := by
      push_cast; rfl
    rw [nd, List.all_cons] at gr
    rw [n1, n2]
    refine wpAny_bind (ge i l1 l2 _ _ ?_)
    cases er : r i with
    | true =>
      rw [er] at gr
      wp_walk
      rw [nc]
      refine ⟨plainId_quiet plain_eq_loop _, codeAny_builtin entry_eq_loop ?_⟩
      rw [Around.under_plainId plain_eq_loop _]
      exact ih (i + 1) (by omega) A R _ ⟨gp, gq, ge, by simpa using gr⟩
    | false =>
      rw [er] at gr
      wp_walk using wpAny_loadPart' gp, wpAny_loadPart' gq
      rw [n1, n2]
      wp_walk
      simpa using gr
theorem mu_list_ne (p q : Addr) (us ws : Array Value) (m m2 : Nat) (d1 d2 : Option Addr) (t1 t2 : Array (Option Value)) (sz : us.size = ws.size) (r : Nat → Bool) :
    MeetsIn prog w (Builtin.«list.__ne__» ⟨[.ref p, .ref q], []⟩)
      (fun A R s => s.heap.get? p = some { cls := .type "list", dict := d1, data := .seq us m, slots := t1 } ∧ s.heap.get? q = some { cls := .type "list", dict := d2, data := .seq ws m2, slots := t2 } ∧
        (∀ j (g1 : j < us.size) (g2 : j < ws.size), EqP prog w A.in1 s us[j] ws[j] (r j)) ∧
        R (.ok (.ret (.bool (!(List.range us.size).all r)))) s) := by
  intro A R s h
  obtain ⟨hh, gg, dd, tt, oo⟩ := s
  obtain ⟨gp, gq, ge, gr⟩ := h
  have sub := AutoSeq1.sub_list_list
  have nne : ¬ (us.size != ws.size) = true := by
    simp [sz]
  wp_walk using wpAny_loadPart' gp, wpAny_loadPart' gq
  refine ⟨plainId_quiet plain_eq_loop _, codeAny_builtin entry_eq_loop ?_⟩
  rw [Around.under_plainId plain_eq_loop _]
  exact mu_ne_loop p q us ws m m2 d1 d2 t1 t2 sz r _ 0 rfl A R _ ⟨gp, gq, ge, by simpa using gr⟩
theorem mu_ne_lists {A : Around} {s : Shared} {p q : Addr} {us ws : Array Value} {r : Nat → Bool} (gp : s.heap.IsList p us) (gq : s.heap.IsList q ws) (sz : us.size = ws.size) (hu : A.units < cLine)
    (ge : ∀ j (g1 : j < us.size) (g2 : j < ws.size), EqP prog w A.in1 s us[j] ws[j] (r j)) (E Q : Value → Shared → Prop) (h : Q (.bool (!(List.range us.size).all r)) s) : wpAny (model prog w) A (richCompare .NotEq (.ref p) (.ref q)) Q E s := by
  obtain ⟨⟨c1, d1, x1, t1⟩, o1, e1, m, y1⟩ := id gp
  obtain ⟨⟨c2, d2, x2, t2⟩, o2, e2, m2, y2⟩ := id gq
  simp only at e1 y1 e2 y2
  subst e1 y1 e2 y2
  have ta : s.TypeIs (.ref p) "list" := ⟨_, o1, rfl⟩
  have tb : s.TypeIs (.ref q) "list" := ⟨_, o2, rfl⟩
  have big := mu_list_ne (prog := prog) (w := w) p q us ws m m2 d1 d2 t1 t2 sz r
  refine wpAny_richCompare_same_room (op := .NotEq) ta tb F.slot_list_ne (call_meetsIn F.slot_list_ne ta F.entry_list_ne (F.args_list_ne_2 _ _) big ?_) hu
  exact ⟨o1, o2, ge, show Value.bool (!(List.range us.size).all r) ≠ Value.notImplemented ∧ Q (.bool (!(List.range us.size).all r)) s from ⟨(fun x => nomatch x), h⟩⟩
end
end PySem.SeqAt
namespace Mu
open PySem PySem.Spec PyProof.Rows L2
/-- two items alike: data, or dicts of flat values -/
def ItemEq (K : PySem.W.Frag) (H : Hp) (x y : V) : Prop :=
  (∃ d, Dp K H x d ∧ Dp K H y d ∧ SeqAt.shaped d = true) ∨
    ∃ (a b : Addr) (kvs : List (Str × V)), x = .ref a ∧ y = .ref b ∧ H a = some (.dK (kvs.map fun p => (Sum.inr p.1, p.2))) ∧ H b = some (.dK (kvs.map fun p => (Sum.inr p.1, p.2))) ∧ (kvs.map Prod.fst).Nodup ∧ ∀ p ∈ kvs, flatB p.2 = true
def rHeq (K : PySem.W.Frag) (neg : Bool) : R2 := fun x y H Q => ∃ a b xs ys, x = .ref a ∧ y = .ref b ∧ SqL K H a xs ∧ SqL K H b ys ∧ Paired (ItemEq K H) xs ys ∧ Q (.bl (!neg)) H
section
variable {X : Cx} {pins : List (Addr × Obj)} {σ : L2.St} {H : Hp} {s : Shared}
theorem item_eqP (I : Inv X pins σ H s) {A : Around} (hu : A.units + 64 < cLine) {x y : V} {v u : Value} (h : ItemEq X.K H x y) (rx : RelV x v) (ry : RelV y u) : SeqAt.EqP X.prog X.w A s v u true := by
  rcases h with ⟨d, h1, h2, sh⟩ | ⟨a, b, kvs, rfl, rfl, h1, h2, hn, hf⟩
  · obtain ⟨as, r1⟩ := Dp.reads I d x v h1 rx
    obtain ⟨bs, r2⟩ := Dp.reads I d y u h2 ry
    have cl := SeqAt.canLay_of_shaped sh
    have q := SeqAt.eqAt_reads d d A s v u as bs r1 r2 cl cl (SeqAt.room_of_shaped sh hu)
    rw [SeqAt.eqv_refl d cl] at q
    exact q.eqP
  · cases (show v = Value.ref a from rx)
    cases (show u = Value.ref b from ry)
    by_cases e : a = b
    · subst e
      exact (SeqAt.EqAt.same _).eqP
    · refine SeqAt.eqP_refs e fun E Q q => ?_
      refine eqR_run I (A := A) (F := fun x y => x = y ∧ flatB x = true) (by omega) (fun x y v u hxy r1 r2 => ?_) (x := .ref a) (y := .ref b) (.inr ⟨a, b, _, _, rfl, rfl, h1, h2, rfl, fun p hp => ?_⟩) rfl rfl E Q q
      · obtain ⟨rfl, f⟩ := hxy
        exact (eqAt_same r1 r2 f).eqP
      · obtain ⟨z, hz, rfl⟩ := List.mem_map.mp hp
        refine ⟨z.2, ?_, rfl, hf z hz⟩
        rw [valS_eq]
        exact look_ndH hn hz
where
  look_ndH : ∀ {W : List (Str × V)} {p : Str × V}, (W.map Prod.fst).Nodup → p ∈ W → W.lookup p.1 = some p.2
  | q :: W, p, hn, hp => by
    rw [List.map_cons, List.nodup_cons] at hn
    rw [List.lookup_cons]
    rcases List.mem_cons.mp hp with e | hp
    · subst e; simp
    · have : (p.1 == q.1) = false := by
        rw [beq_eq_false_iff_ne]
        intro e
        exact hn.1 (e ▸ List.mem_map_of_mem hp)
      rw [this]
      exact look_ndH hn.2 hp
theorem items_eqP (I : Inv X pins σ H s) {A : Around} (hu : A.units + 64 < cLine) {xs ys : List V} (hp : Paired (ItemEq X.K H) xs ys) :
    ∀ {us ws : List Value}, Vals xs us → Vals ys ws → ∀ j (h1 : j < us.length) (h2 : j < ws.length), SeqAt.EqP X.prog X.w A s us[j] ws[j] true := by
  induction hp with
  | nil =>
    intro us ws r1 r2 j h1 h2
    cases r1
    exact absurd h1 (Nat.not_lt_zero j)
  | cons h _ k =>
    intro us ws r1 r2 j g1 g2
    cases r1 with
    | cons a1 b1 => cases r2 with
      | cons a2 b2 => cases j with
        | zero => exact item_eqP I hu h a1 a2
        | succ j => exact k b1 b2 j (Nat.lt_of_succ_lt_succ g1) (Nat.lt_of_succ_lt_succ g2)
end
theorem op_heq {X : Cx} {K : PySem.W.Frag} (hK : X.K = K) (hu : X.A.units + 66 < cLine) : OpR X (compareOp .Eq) (rHeq K false) := by
  subst hK
  intro pins s σ H x y v u Q I rx ry h
  obtain ⟨a, b, xs, ys, rfl, rfl, ha, hb, hp, q⟩ := h
  cases (show v = Value.ref a from rx)
  cases (show u = Value.ref b from ry)
  obtain ⟨us, r1, p1, _⟩ := I.list ha
  obtain ⟨ws, r2, p2, _⟩ := I.list hb
  have hsz : us.toArray.size = ws.toArray.size := by
    rw [List.size_toArray, List.size_toArray, ← r1.length, ← r2.length]
    exact Paired.length hp
  refine SeqAt.rcP_lists (e := fun _ => true) p1.isList p2.isList hsz (by omega) (fun j h1 h2 => ?_) _ _ ?_
  · have k := items_eqP I (A := X.A.in1) (by show X.A.units + 1 + 64 < cLine; omega) hp r1 r2 j (by simpa using h1) (by simpa using h2)
    simpa using k
  · rw [show ((List.range us.toArray.size).all fun _ => true) = true from List.all_eq_true.mpr fun _ _ => rfl]
    exact ⟨.bl true, H, I, rfl, q⟩
theorem op_hne {X : Cx} {K : PySem.W.Frag} (hK : X.K = K) (hu : X.A.units + 66 < cLine) : OpR X (compareOp .NotEq) (rHeq K true) := by
  subst hK
  intro pins s σ H x y v u Q I rx ry h
  obtain ⟨a, b, xs, ys, rfl, rfl, ha, hb, hp, q⟩ := h
  cases (show v = Value.ref a from rx)
  cases (show u = Value.ref b from ry)
  obtain ⟨us, r1, p1, _⟩ := I.list ha
  obtain ⟨ws, r2, p2, _⟩ := I.list hb
  have hsz : us.toArray.size = ws.toArray.size := by
    rw [List.size_toArray, List.size_toArray, ← r1.length, ← r2.length]
    exact Paired.length hp
  refine SeqAt.mu_ne_lists (r := fun _ => true) p1.isList p2.isList hsz (by omega) (fun j h1 h2 => ?_) _ _ ?_
  · have k := items_eqP I (A := X.A.in1) (by show X.A.units + 1 + 64 < cLine; omega) hp r1 r2 j (by simpa using h1) (by simpa using h2)
    simpa using k
  · rw [show ((List.range us.toArray.size).all fun _ => true) = true from List.all_eq_true.mpr fun _ _ => rfl]
    exact ⟨.bl false, H, I, rfl, q⟩
/-- an item of either kind -/
inductive ItD : Dn → Prop
  | data {d : Dn} {x : PyData} : DD d x → SeqAt.shaped x = true → ItD d
  | dict {kvs : List (Str × V)} : (kvs.map Prod.fst).Nodup → (∀ p ∈ kvs, flatB p.2 = true) → ItD (dD kvs)
theorem ItD.eq {d : Dn} (h : ItD d) {K : PySem.W.Frag} {x y : V} {N H : Hp} (s : Same N H) (hx : d.p x N) (hy : d.p y N) : ItemEq K H x y := by
  cases h with
  | data hd sh => exact .inl ⟨_, hd K x N H s hx, hd K y N H s hy, sh⟩
  | dict hn hf =>
    obtain ⟨a, rfl, ha⟩ := hx
    obtain ⟨b, rfl, hb⟩ := hy
    exact .inr ⟨a, b, _, rfl, rfl, s a _ ha, s b _ hb, hn, hf⟩
theorem items_rep {K : PySem.W.Frag} {N H : Hp} (s : Same N H) : ∀ {ds : List Dn} {xs ys : List V}, (∀ d ∈ ds, ItD d) → Rep N ds xs → Rep N ds ys → Paired (ItemEq K H) xs ys
  | [], _, _, _, .nil, .nil => .nil
  | d :: ds, _, _, h, .cons a r, .cons b r' => .cons ((h d List.mem_cons_self).eq s a b) (items_rep s (fun e he => h e (List.mem_cons_of_mem _ he)) r r')
theorem rv_heq {K : PySem.W.Frag} {neg : Bool} {ds : List Dn} (h : ∀ d ∈ ds, ItD d) : RvR (rHeq K neg) (dL ds) (dL ds) (dB (!neg)) := fun u v N H s hx hy Q q => by
  obtain ⟨a, vs, rfl, ha, r⟩ := hx
  obtain ⟨b, ws, rfl, hb, r'⟩ := hy
  exact ⟨a, b, vs, ws, rfl, rfl, SqL.of (s a _ ha), SqL.of (s b _ hb), items_rep s h r r', q _ N H (.refl s) rfl⟩
/-- a def that is never called at this depth -/
theorem cal_zero {P : Program} {w : World} {K : PySem.W.Frag} {mg : Str → Option Value} {base : Heap} {x : Str} {st : Stmt} {ps : List Str} (F : DefF K mg x st) (hb : BindOk x st ps) : Cal P w K mg base 0 x (spF fun _ _ => False) := by
  obtain ⟨f, fd, D, hm⟩ := F.ex
  exact ⟨f, fd, ps, ⟨fun vs H Q E ⟨_, _, _, z, _⟩ => z.elim, fun A outer s H args us vs Q E _ _ _ _ ⟨_, _, _, z, _⟩ => z.elim⟩, hm, D.kp, D.bindsN hb⟩
end Mu
/-! A list of lists, all one's own. -/
namespace Mu
open PySem PySem.Spec PyProof.Rows L2
/-- each of its own, the texts as told -/
structure LL (a : Addr) (as : List Addr) (pss : List (List Str)) (H0 N H : Hp) : Prop where
  h0 : H0 a = none
  n : N a = none
  h : H a = some (.lst (as.map V.ref))
  nd : as.Nodup
  na : a ∉ as
  p : Paired (fun c ps => H0 c = none ∧ N c = none ∧ H c = some (.lst (ps.map V.str))) as pss
def oLL (k : Nat) (pss : List (List Str)) : Ow := ⟨k, fun v H0 N H => ∃ a as, v = .ref a ∧ LL a as pss H0 N H,
  fun v H0 N H N' H' x ⟨a, as, e, l⟩ => ⟨a, as, e, l.h0, x.f a l.n (by rw [l.h]; simp), x.h a _ l.h, l.nd, l.na, Paired.mapP l.p fun c ps ⟨h1, h2, h3⟩ => ⟨h1, x.f c h2 (by rw [h3]; simp), x.h c _ h3⟩⟩⟩
section
variable {ρ : Ro} {o : Option Ow} {B : Bd} {z : TS} {K : PySem.W.Frag} {ta te te2 te3 : TE} {k i j : Nat}
/-- xs = [[] for _ in ..] -/
theorem go_asgLL {β : Type} {wi : TI} {g : TG} {vs : List Nat} (xs : List β) (δ : β → Dn) (bd : β → Ro → Ro) (js : List Nat) (hw : Wi wi ρ (xs.map δ)) (ht : ∀ b, Tgt g (δ b) (bd b) js) (hl : xs.length ≤ 1000) (hs : ∀ j ∈ js, j ∈ vs)
    (k1 : Go z (ρ.set i none) (some (oLL i (List.replicate xs.length []))) B) (hi : i < ρ.length) : Go (tSeq (tAsg (tLc wi g tYes (tLst tNil) vs) (gName i)) z) ρ o B := fun M N0 H0 σ N H D s bb => by
  refine hw σ N H s.e s.hk _ fun J N' H' G Y x wk hG hY D' hD => ?_
  have nD : N' D' = none := x.s.free hD
  have st := s.step x
  refine lc_it wk (fun n H2 => ∃ N2 as, Nx N' H' N2 H2 ∧ LL D' as (List.replicate n []) H' N2 H2) ⟨N', [], Nx.own x.s hD, hD, nD, upd_same, List.nodup_nil, List.not_mem_nil, .nil⟩
    (fun n H2 _ ⟨N2, as, y, _⟩ => hG H2 (y.n.trans y.s)) ?_ ?_
  · rintro n v H2 H3 hn ⟨N2, as, y, l⟩ hy
    rw [List.length_map] at hn
    have hx : xs[n]? = some xs[n] := List.getElem?_eq_getElem hn
    obtain ⟨N3, x3, p3⟩ := hY n (δ xs[n]) (by rw [List.getElem?_map, hx]; rfl) N2 H2 v H3 y.n y.s hy
    refine ht xs[n] v _ N3 H3 p3 x3.s _ ((s.e.mono (x.n.trans (y.n.trans x3.n))).wipe vs) _ fun σ' e' hk' hl' => ⟨?_, ?_⟩
    · rw [wipe_tg hk' hl' hs, wipe_wipe]
    · have y4 := y.trans x3
      have hD3 : H3 D' = _ := x3.h D' _ l.h
      have nD3 : N3 D' = none := x3.f D' l.n (by rw [l.h]; simp)
      refine ⟨Nat.zero_le _, fun p hp => ⟨as.map V.ref, ?_, ?_, ?_⟩⟩
      · rw [upd_ne (fun e => by subst e; rw [hD3] at hp; cases hp)]
        exact hD3
      · have := Paired.length l.p
        rw [List.length_replicate] at this
        rw [List.length_map, sizeLine_eq]
        omega
      · have pD : p ≠ D' := fun e => by subst e; rw [hD3] at hp; cases hp
        have np : N3 p = none := x3.s.free hp
        have h'p : H' p = none := y4.h.free hp
        have pas : p ∉ as := fun hm => by
          obtain ⟨ps, hm2, h1, h2, h3⟩ := pairL l.p hm
          rw [x3.h p _ h3] at hp
          cases hp
        refine ⟨N3, as ++ [p], ⟨y4.n, fun b u e => ?_, fun b u e => ?_, y4.f⟩, hD, nD3, by rw [upd_same, List.map_append]; rfl, ?_, ?_, ?_⟩
        · rw [upd_ne (ne_of_none e nD3), upd_ne (ne_of_none e np)]; exact y4.s b u e
        · rw [upd_ne (ne_of_none e hD), upd_ne (ne_of_none e h'p)]; exact y4.h b u e
        · refine List.nodup_append.mpr ⟨l.nd, List.nodup_cons.mpr ⟨List.not_mem_nil, List.nodup_nil⟩, fun a ha b hb e => ?_⟩
          rw [List.mem_singleton] at hb
          subst hb
          exact pas (e ▸ ha)
        · rw [List.mem_append, List.mem_singleton]
          exact fun z => z.elim l.na fun e => pD e.symm
        · rw [List.replicate_succ']
          refine pair_app (pairMem l.p fun c ps hc ⟨h1, h2, h3⟩ => ⟨h1, x3.f c h2 (by rw [h3]; simp), ?_⟩) (.cons ⟨h'p, np, ?_⟩ .nil)
          · rw [upd_ne (fun e => by subst e; exact l.na hc), upd_ne (fun e => by subst e; exact pas hc)]
            exact x3.h c _ h3
          · rw [upd_ne pD, upd_same]
            rfl
  · rintro H2 ⟨N2, as, y, l⟩
    rw [List.length_map] at l
    have st2 := st.step y
    refine k1 M N0 H0 _ N2 H2 D ⟨st2.m, st2.x, st2.e.none, fun w e => ?_⟩ bb
    cases e
    exact ⟨.ref D', List.getElem?_set_self (by rw [← st2.e.len]; exact hi), D', as, rfl, st.x.h.free hD, l.n, l.h, l.nd, l.na, Paired.mapP l.p fun c ps ⟨h1, h2, h3⟩ => ⟨st.x.h.free h1, h2, h3⟩⟩
where
  pairL : ∀ {α β : Type} {R : α → β → Prop} {xs : List α} {vs : List β}, Paired R xs vs → ∀ {x : α}, x ∈ xs → ∃ v, v ∈ vs ∧ R x v
  | _, _, _, _, _, .nil, _, h => nomatch h
  | _, _, _, _, _, .cons a t, x, h => by
    rcases List.mem_cons.mp h with e | h
    · subst e; exact ⟨_, List.mem_cons_self, a⟩
    · obtain ⟨v, hv, r⟩ := pairL t h
      exact ⟨v, List.mem_cons_of_mem _ hv, r⟩
  pairMem : ∀ {α β : Type} {R S : α → β → Prop} {xs : List α} {vs : List β}, Paired R xs vs → (∀ a b, a ∈ xs → R a b → S a b) → Paired S xs vs
  | _, _, _, _, _, _, .nil, _ => .nil
  | _, _, _, _, _, _, .cons a t, h => .cons (h _ _ List.mem_cons_self a) (pairMem t fun a b ha r => h a b (List.mem_cons_of_mem _ ha) r)
  pair_app : ∀ {α β : Type} {R : α → β → Prop} {xs ys : List α} {vs ws : List β}, Paired R xs vs → Paired R ys ws → Paired R (xs ++ ys) (vs ++ ws)
  | _, _, _, _, _, _, _, .nil, s => s
  | _, _, _, _, _, _, _, .cons a t, s => .cons a (pair_app t s)
abbrev pLS (s : List Str) : Dn := dL (s.map dS)
theorem rep_lists {N1 : Hp} : ∀ {as : List Addr} {pss : List (List Str)}, Paired (fun c ps => N1 c = some (.lst (ps.map V.str))) as pss → Rep N1 (pss.map pLS) (as.map V.ref)
  | _, _, .nil => .nil
  | _, _, .cons h t => .cons ⟨_, _, rfl, h, rep_strs⟩ (rep_lists t)
/-- the own lists, known for a while -/
theorem own_fzLL {M N0 H0 N H : Hp} {σ : SSt} {pss : List (List Str)} (s : Sx M N0 H0 ρ (some (oLL k pss)) σ N H) : ∃ a as N1, σ[k]? = some (some (.ref a)) ∧ LL a as pss H0 N H ∧ En (ρ.set k (some (dL (pss.map pLS)))) σ N1 ∧ Same N1 H ∧ Same N N1 ∧ Paired (fun c ps => N1 c = some (.lst (ps.map V.str))) as pss ∧ ∀ b, N b = none → N1 b ≠ none → b = a ∨ b ∈ as := by
  obtain ⟨v, hv, a, as, rfl, l⟩ := s.o _ rfl
  have hv : σ[k]? = some (some (.ref a)) := hv
  let N1 : Hp := fun b => match N b with
    | some u => some u
    | none => if b = a ∨ b ∈ as then H b else none
  have s1 : Same N N1 := fun b u e => by
    show (match N b with | some u => some u | none => _) = _
    rw [e]
  have s2 : Same N1 H := fun b u e => by
    have e : (match N b with | some u => some u | none => if b = a ∨ b ∈ as then H b else none) = some u := e
    cases hn : N b with
    | some w =>
      rw [hn] at e
      cases e
      exact s.hk b _ hn
    | none =>
      rw [hn] at e
      dsimp only at e
      split at e
      · exact e
      · cases e
  have at1 : ∀ b, N b = none → (b = a ∨ b ∈ as) → N1 b = H b := fun b hn hb => by
    show (match N b with | some u => some u | none => if b = a ∨ b ∈ as then H b else none) = _
    rw [hn]
    exact if_pos hb
  have pp : Paired (fun c ps => N1 c = some (.lst (ps.map V.str))) as pss := go_asgLL.pairMem l.p fun c ps hc ⟨h1, h2, h3⟩ => (at1 c h2 (.inr hc)).trans h3
  have kn : (dL (pss.map pLS)).p (.ref a) N1 := by
    refine ⟨a, as.map V.ref, rfl, (at1 a l.n (.inl rfl)).trans l.h, rep_lists pp⟩
  have q := (s.e.mono s1).set (i := k) (d := dL (pss.map pLS)) (v := .ref a) kn
  have e1 : σ.set k (some (.ref a)) = σ := by
    refine List.ext_getElem? fun j => ?_
    by_cases hj : k = j
    · subst hj
      rw [hv, List.getElem?_set_self (List.getElem?_eq_some_iff.mp hv).1]
    · rw [List.getElem?_set_ne hj]
  rw [e1] at q
  refine ⟨a, as, N1, hv, l, q, s2, s1, pp, fun b hn hb => ?_⟩
  have hb : (match N b with | some u => some u | none => if b = a ∨ b ∈ as then H b else none) ≠ none := hb
  rw [hn] at hb
  dsimp only at hb
  split at hb
  · rename_i h; exact h
  · exact absurd rfl hb
theorem go_tellLL {pss : List (List Str)} (h : Go z (ρ.set k (some (dL (pss.map pLS)))) none B) : Go z ρ (some (oLL k pss)) B := fun M N0 H0 σ N H D s b => by
  obtain ⟨a, as, N1, hv, l, q, s2, s1, pp, fz⟩ := own_fzLL s
  refine h M N0 H0 σ N1 H D ⟨s.m.trans s1, ⟨s.x.n.trans s1, s2, s.x.h, fun b hb hn => ?_⟩, q, fun _ e => nomatch e⟩ b
  have hn0 := s.x.f b hb hn
  cases e : N1 b with
  | none => rfl
  | some u =>
    exfalso
    rcases fz b hn0 (by rw [e]; simp) with z | z
    · exact hn (z ▸ l.h0)
    · obtain ⟨ps, _, g, _⟩ := go_asgLL.pairL l.p z
      exact hn g
theorem pair_at {α β : Type} {R : α → β → Prop} : ∀ {xs : List α} {vs : List β} {i : Nat} {v : β}, Paired R xs vs → vs[i]? = some v → ∃ x, xs[i]? = some x ∧ R x v
  | _, _, _, _, .nil, e => by simp at e
  | _, _, 0, _, .cons r _, e => by simp at e; subst e; exact ⟨_, rfl, r⟩
  | _, _, i + 1, v, .cons _ t, e => by
    obtain ⟨u, h1, h2⟩ := pair_at (i := i) (v := v) t (by simpa using e)
    exact ⟨u, by simpa using h1, h2⟩
theorem pair_set {α β : Type} {R S : α → β → Prop} : ∀ {xs : List α} {vs : List β} {i : Nat} {x : α} {v : β}, Paired R xs vs → xs[i]? = some x → S x v → xs.Nodup → (∀ a b, a ∈ xs → a ≠ x → R a b → S a b) → Paired S xs (vs.set i v)
  | _, _, _, _, _, .nil, e, _, _, _ => by simp at e
  | a :: xs, _, 0, x, v, .cons r t, e, h, nd, hs => by
    simp at e
    subst e
    rw [List.nodup_cons] at nd
    exact .cons h (go_asgLL.pairMem t fun b c hb rb => hs b c (List.mem_cons_of_mem _ hb) (fun z => nd.1 (z ▸ hb)) rb)
  | a :: xs, _, i + 1, x, v, .cons r t, e, h, nd, hs => by
    have e : xs[i]? = some x := by simpa using e
    rw [List.nodup_cons] at nd
    refine .cons (hs _ _ List.mem_cons_self (fun z => nd.1 (z ▸ List.mem_of_getElem? e)) r) (pair_set t e h nd.2 fun b c hb ne rb => hs b c (List.mem_cons_of_mem _ hb) ne rb)
/-- part = xs[i]; part.insert(m, w) -/
theorem go_insLL {pss : List (List Str)} {n m : Nat} {x : Str} (h1 : Ev ta (ρ.set k (some (dL (pss.map pLS)))) (dI (n : Int))) (hn : n < pss.length)
    (h2 : Ev te2 ((ρ.set k (some (dL (pss.map pLS)))).set j (some (pLS (gt pss n)))) (dI (m : Int))) (h3 : Ev te3 ((ρ.set k (some (dL (pss.map pLS)))).set j (some (pLS (gt pss n)))) (dS x)) (hl : (gt pss n).length < 1000) (hm : m < 1000) (hkj : k ≠ j) (hj : j < ρ.length)
    (k1 : Go z (ρ.set j none) (some (oLL k (pss.set n ((gt pss n).take m ++ [x] ++ (gt pss n).drop m)))) B) :
    Go (tSeq (tAsg (tOp (rIxL K) (tVar k) ta) (gName j)) (tSeq (tDrop (tBM K "list" (fun x vs H Q => ∃ (l : Addr) (xs : List V) (i : Int) (y : V), x = .ref l ∧ vs = [.int i, y] ∧ H l = some (.lst xs) ∧ xs.length < sizeLine ∧ 0 ≤ i ∧ i < 2 ^ 63 ∧
      Q .non (upd H l (.lst (xs.take i.toNat ++ [y] ++ xs.drop i.toNat)))) (tVar j) (tCons te2 (tCons te3 tNil)))) z)) ρ (some (oLL k pss)) B := fun M N0 H0 σ N H D s b => by
  obtain ⟨a, as, N1, hv, l, q, s2, s1, pp, fz⟩ := own_fzLL s
  refine ⟨_, hv, h1 σ N1 H q s2 _ fun v N2 H2 x2 p2 => ?_⟩
  cases (show v = V.int n from p2)
  obtain ⟨c, hc, hc1, hc2, hc3⟩ := pair_at l.p (gt_lt hn)
  have hH2 : H2 a = _ := x2.h a _ l.h
  refine ⟨a, as.map V.ref, _, .ref c, rfl, rfl, SqL.of hH2, ?_, ?_⟩
  · have := atI_nat (xs := as.map V.ref) (i := n) (x := .ref c) (by rw [List.getElem?_map, hc]; rfl)
    exact this
  have hc4 : H2 c = some (.lst ((gt pss n).map V.str)) := x2.h c _ hc3
  have en2 : En ((ρ.set k (some (dL (pss.map pLS)))).set j (some (pLS (gt pss n)))) (σ.set j (some (.ref c))) N2 := by
    obtain ⟨c', hc', hn1⟩ := pair_at pp (gt_lt hn)
    rw [hc] at hc'
    cases hc'
    exact (q.mono x2.n).set ⟨c, _, rfl, x2.n c _ hn1, rep_strs⟩
  have hj2 : (σ.set j (some (V.ref c)))[j]? = some (some (.ref c)) := List.getElem?_set_self (by rw [← s.e.len]; exact hj)
  refine ⟨_, hj2, .inl ⟨rfl, _, SqL.of hc4⟩, h2 _ N2 H2 en2 x2.s _ fun v3 N3 H3 x3 p3 => h3 _ N3 H3 (en2.mono x3.n) x3.s _ fun v4 N4 H4 x4 p4 => ?_⟩
  cases (show v3 = V.int m from p3)
  cases (show v4 = V.str x from p4)
  have y : Nx N1 H N4 H4 := (x2.trans x3).trans x4
  have yl : Nx N H N H4 := Nx.less s.hk y
  have hc5 : H4 c = some (.lst ((gt pss n).map V.str)) := y.h c _ hc3
  refine ⟨c, _, (m : Int), .str x, rfl, rfl, hc5, by rw [List.length_map, sizeLine_eq]; omega, by omega, by omega, ?_⟩
  have s4 := s.step yl
  have ca : c ≠ a := fun e => l.na (e ▸ List.mem_of_getElem? hc)
  refine k1 M N0 H0 _ N _ D ⟨s4.m, ⟨s4.x.n, fun b' u e => ?_, fun b' u e => ?_, s4.x.f⟩, s4.e.none, fun w e => ?_⟩ b
  · rw [upd_ne (ne_of_none e hc2)]; exact yl.s b' u e
  · rw [upd_ne (ne_of_none e hc1)]; exact s4.x.h b' u e
  · cases e
    refine ⟨.ref a, by show (σ.set j _)[k]? = _; rw [List.getElem?_set_ne hkj.symm]; exact hv, a, as, rfl, l.h0, l.n, ?_, l.nd, l.na, ?_⟩
    · rw [upd_ne ca.symm]; exact y.h a _ l.h
    · refine pair_set l.p hc ⟨hc1, hc2, ?_⟩ l.nd fun a' b' ha ne ⟨g1, g2, g3⟩ => ⟨g1, g2, ?_⟩
      · rw [upd_same, Int.toNat_natCast, List.map_append, List.map_append, List.map_take, List.map_drop]
        rfl
      · rw [upd_ne ne]; exact y.h a' _ g3
end
end Mu
/-! sorted, of rows that are data. -/
namespace Mu
open PySem PySem.Spec PyProof.Rows L2
def rSortedD (K : PySem.W.Frag) : List V → Hp → VK → Prop := fun vs H Q => ∃ (a : Addr) (bs : List (V × PyData)), vs = [V.ref a] ∧ SqL K H a (bs.map Prod.fst) ∧ bs.length ≤ 1000000 ∧ (∀ b ∈ bs, Dp K H b.1 b.2) ∧
  PySem.W.AllAlike (bs.map Prod.snd) ∧ (∀ b ∈ bs, ∃ x r, b.2 = .tuple (x :: r)) ∧ (∀ b ∈ bs, b.2.depth ≤ 60) ∧ ∀ p, H p = none → Q (.ref p) (upd H p (.lst ((bs.mergeSort (PySem.W.dataLe false Prod.snd)).map Prod.fst)))
theorem vals_each {bs : List (V × PyData)} {us : List Value} (r : Vals (bs.map Prod.fst) us) : PySem.W.EachIs (fun (v : Value) (b : V × PyData) => RelV b.1 v) us bs := by
  induction bs generalizing us with
  | nil => cases r; exact .nil
  | cons b bs ih => cases r with
    | cons r1 r2 => exact .cons r1 (ih r2)
theorem each_vals {bs : List (V × PyData)} {us : List Value} (e : PySem.W.EachIs (fun (v : Value) (b : V × PyData) => RelV b.1 v) us bs) : Vals (bs.map Prod.fst) us := by
  induction e with
  | nil => exact .nil
  | cons h _ ih => exact .cons h ih
theorem cr_sortedD {X : Cx} {K : PySem.W.Frag} (hK : X.K = K) (hu : X.A.units + 66 < cLine) : CallR X (.builtin "sorted") (rSortedD K) := by
  subst hK
  intro pins s σ H vs us Q I r h
  obtain ⟨a, bs, rfl, hs, hl, hd, hal, ht, hdep, q⟩ := h
  obtain ⟨its, rv, hli, hz⟩ := I.list hs
  clear hz
  rw [Vals.ref1 r]
  have er : PySem.W.EachIs (fun (v : Value) (b : V × PyData) => ∃ as, Reads s.heap v b.2 as) its bs := by
    clear q hs hli hal ht hdep hl
    induction bs generalizing its with
    | nil => cases rv; exact .nil
    | cons b bs ih => cases rv with
      | cons r1 r2 => exact .cons (Dp.reads I b.2 b.1 _ (hd b List.mem_cons_self) r1) (ih (fun c hc => hd c (List.mem_cons_of_mem _ hc)) _ r2)
  refine PySem.W.sorted_data (bs := bs) (enc := Prod.snd) (R := fun v b => RelV b.1 v) hli.isList (vals_each rv) er hal (.inl fun d hd => ?_) (by rw [sizeLine_eq]; omega) (fun b hb => by have := hdep b hb; omega) fun out ho eo => ?_
  · obtain ⟨b, hb, rfl⟩ := List.mem_map.mp hd
    exact ht b hb
  · obtain ⟨ep, he'⟩ := PyProof.Rows.sortedAll_at s.heap its out.toArray
    have hlen : ((bs.mergeSort (PySem.W.dataLe false Prod.snd)).map Prod.fst).length ≤ sizeLine := by
      rw [List.length_map, List.length_mergeSort, sizeLine_eq]; omega
    exact ⟨.ref _, upd H (s.heap.objs.size + 1) (.lst ((bs.mergeSort (PySem.W.dataLe false Prod.snd)).map Prod.fst)), I.laid (t' := s.toks) (fun _ _ => PyProof.Rows.sortedAll_old) (Nat.le_succ _) ⟨hlen, out, ep, each_vals eo, he'⟩, rfl, q _ (I.hok.fresh (Nat.le_succ _))⟩
/-! rows -/
abbrev tk (xs : List PyData) : List (Int ⊕ List Nat) := PySem.W.keyToksAll xs
def SrtK {α : Type} (g : α → List PyData) (ys : List α) : Prop := ys.Pairwise fun x y => PyProof.Rows.lexLt itemOrd (tk (g y)) (tk (g x)) = false
theorem perm_rows {α : Type} {δ : α → Dn} {N : Hp} : ∀ {ts : List (V × α)}, (∀ t ∈ ts, (δ t.2).p t.1 N) → Rep N ((ts.map Prod.snd).map δ) (ts.map Prod.fst)
  | [], _ => .nil
  | t :: ts, h => .cons (h t List.mem_cons_self) (perm_rows fun u hu => h u (List.mem_cons_of_mem _ hu))
theorem rep_zip {α : Type} {δ : α → Dn} {N : Hp} : ∀ {xs : List α} {vs : List V}, Rep N (xs.map δ) vs → (vs.zip xs).map Prod.fst = vs ∧ (vs.zip xs).map Prod.snd = xs ∧ ∀ t ∈ vs.zip xs, (δ t.2).p t.1 N
  | [], _, .nil => ⟨rfl, rfl, fun _ h => nomatch h⟩
  | x :: xs, _, .cons a t => by
    obtain ⟨h1, h2, h3⟩ := rep_zip t
    refine ⟨by rw [List.zip_cons_cons, List.map_cons, h1], by rw [List.zip_cons_cons, List.map_cons, h2], fun u hu => ?_⟩
    rw [List.zip_cons_cons] at hu
    rcases List.mem_cons.mp hu with e | hu
    · subst e; exact a
    · exact h3 u hu
/-- a row's form: a tuple, not empty, all of them alike -/
structure RowD {α : Type} (δ : α → Dn) (g : α → List PyData) : Prop where
  d : ∀ x, DD (δ x) (.tuple (g x))
  al : ∀ x y, PySem.W.alike (.tuple (g x)) (.tuple (g y)) = true
  ne : ∀ x, ∃ a r, g x = a :: r
  dep : ∀ x, (PyData.tuple (g x)).depth ≤ 60
theorem rc_sortedQ {α : Type} {K : PySem.W.Frag} {xs : List α} {δ : α → Dn} {g : α → List PyData} (h : RowD δ g) (hl : xs.length ≤ 1000000) : RvC (rSortedD K) [dL (xs.map δ)] (dEx (fun ys : List α => ys.Perm xs ∧ SrtK g ys) fun ys => dL (ys.map δ)) := fun vs N H s r Q q => by
  cases r with
  | cons h1 t =>
    cases t
    obtain ⟨a, vs, rfl, ha, r⟩ := h1
    obtain ⟨z1, z2, z3⟩ := rep_zip r
    let G : V × α → V × PyData := fun t => (t.1, .tuple (g t.2))
    let le : V × α → V × α → Bool := fun t u => !PyProof.Rows.lexLt itemOrd (tk (g u.2)) (tk (g t.2))
    have e1 : ((vs.zip xs).map G).map Prod.fst = vs := by
      rw [List.map_map]
      exact z1
    have ms : ((vs.zip xs).mergeSort le).map G = ((vs.zip xs).map G).mergeSort (PySem.W.dataLe false Prod.snd) := List.map_mergeSort fun t _ u _ => by
      show (!PyProof.Rows.lexLt itemOrd (tk (g u.2)) (tk (g t.2))) = !PySem.W.dataLt (.tuple (g u.2)) (.tuple (g t.2))
      rw [PySem.W.dataLt_tuple]
    refine ⟨a, (vs.zip xs).map G, rfl, by rw [e1]; exact SqL.of (s a _ ha), ?_, fun b hb => ?_, ?_, fun b hb => ?_, fun b hb => ?_, fun p hp => ?_⟩
    · rw [List.length_map, List.length_zip]
      omega
    · obtain ⟨t, ht, rfl⟩ := List.mem_map.mp hb
      exact h.d t.2 K t.1 N H s (z3 t ht)
    · intro d hd d' hd'
      obtain ⟨b, hb, rfl⟩ := List.mem_map.mp hd
      obtain ⟨b', hb', rfl⟩ := List.mem_map.mp hd'
      obtain ⟨t, ht, rfl⟩ := List.mem_map.mp hb
      obtain ⟨t', ht', rfl⟩ := List.mem_map.mp hb'
      exact h.al _ _
    · obtain ⟨t, ht, rfl⟩ := List.mem_map.mp hb
      obtain ⟨u, r, e⟩ := h.ne t.2
      exact ⟨u, r, congrArg PyData.tuple e⟩
    · obtain ⟨t, ht, rfl⟩ := List.mem_map.mp hb
      exact h.dep t.2
    · rw [← ms, List.map_map]
      have pm := List.mergeSort_perm (vs.zip xs) le
      refine q _ _ _ (.new s hp) ⟨((vs.zip xs).mergeSort le).map Prod.snd, ⟨?_, ?_⟩, p, _, rfl, upd_same, ?_⟩
      · have := pm.map Prod.snd
        rwa [z2] at this
      · have so := List.pairwise_mergeSort (le := le) (fun x y z h1 h2 => by
          show (!PyProof.Rows.lexLt itemOrd (tk (g z.2)) (tk (g x.2))) = true
          have h1 : (!PyProof.Rows.lexLt itemOrd (tk (g y.2)) (tk (g x.2))) = true := h1
          have h2 : (!PyProof.Rows.lexLt itemOrd (tk (g z.2)) (tk (g y.2))) = true := h2
          rw [Bool.not_eq_true'] at h1 h2 ⊢
          cases e : PyProof.Rows.lexLt itemOrd (tk (g z.2)) (tk (g x.2)) with
          | false => rfl
          | true =>
            rcases lex_negTrans (O := itemOrd) _ (tk (g y.2)) _ e with q | q
            · rw [h2] at q; cases q
            · rw [h1] at q; cases q) (fun x y => by
          show (!PyProof.Rows.lexLt itemOrd (tk (g y.2)) (tk (g x.2)) || !PyProof.Rows.lexLt itemOrd (tk (g x.2)) (tk (g y.2))) = true
          cases e : PyProof.Rows.lexLt itemOrd (tk (g y.2)) (tk (g x.2)) with
          | false => rfl
          | true =>
            cases e2 : PyProof.Rows.lexLt itemOrd (tk (g x.2)) (tk (g y.2)) with
            | false => rfl
            | true =>
              have := lex_trans (O := itemOrd) _ _ _ e e2
              rw [lex_irrefl] at this
              cases this) (vs.zip xs)
        unfold SrtK
        rw [List.pairwise_map]
        exact so.imp fun h => by
          have h : (!PyProof.Rows.lexLt itemOrd (tk (g _)) (tk (g _))) = true := h
          simpa using h
      · exact Rep.mono (Nx.new s hp).n (perm_rows fun t ht => z3 t (pm.mem_iff.mp ht))
theorem srt_uniq {α : Type} {g : α → List PyData} (hk : ∀ x y, tk (g x) = tk (g y) → x = y) {ys zs : List α} (h1 : SrtK g ys) (h2 : SrtK g zs) (p : ys.Perm zs) : ys = zs :=
  List.Perm.eq_of_pairwise (le := fun x y => PyProof.Rows.lexLt itemOrd (tk (g y)) (tk (g x)) = false) (fun a b _ _ p q => hk a b (lex_total (O := itemOrd) _ _ q p)) h1 h2 p
theorem srt_dec {α : Type} [DecidableEq α] {g : α → List PyData} (hk : ∀ x y, tk (g x) = tk (g y) → x = y) {xs us ys zs : List α} (h1 : SrtK g ys) (h2 : SrtK g zs) (p : ys.Perm xs) (q : zs.Perm us) : decide (ys = zs) = decide (xs.Perm us) := by
  rw [decide_eq_decide]
  constructor
  · intro e
    subst e
    exact p.symm.trans q
  · intro e
    exact srt_uniq hk h1 h2 ((p.trans e).trans q.symm)
def gRow (r : Int × Int × Int) : List PyData := [.int r.1, .int r.2.1, .int r.2.2]
def gPr (r : Int × Int × (Int × Int)) : List PyData := [.int r.1, .int r.2.1, .tuple [.int r.2.2.1, .int r.2.2.2]]
def gNN (p : Nat × Nat) : List PyData := [.int p.1, .int p.2]
theorem rd_row : RowD (fun r : Int × Int × Int => dT [dI r.1, dI r.2.1, dI r.2.2]) gRow := ⟨fun _ => dd_tup3 dd_int dd_int dd_int, fun x y => by simp [gRow, PySem.W.alike, PySem.W.alikeAll], fun _ => ⟨_, _, rfl⟩, fun x => by simp [gRow, PyData.depth, PyData.depthAll]⟩
theorem rd_pr : RowD (fun r : Int × Int × (Int × Int) => dT [dI r.1, dI r.2.1, dT [dI r.2.2.1, dI r.2.2.2]]) gPr := ⟨fun _ => dd_tup3 dd_int dd_int (dd_tup2 dd_int dd_int), fun x y => by simp [gPr, PySem.W.alike, PySem.W.alikeAll], fun _ => ⟨_, _, rfl⟩, fun x => by simp [gPr, PyData.depth, PyData.depthAll]⟩
theorem rd_nn : RowD (fun p : Nat × Nat => dT [dI (p.1 : Int), dI (p.2 : Int)]) gNN := ⟨fun _ => dd_tup2 dd_int dd_int, fun x y => by simp [gNN, PySem.W.alike, PySem.W.alikeAll], fun _ => ⟨_, _, rfl⟩, fun x => by simp [gNN, PyData.depth, PyData.depthAll]⟩
theorem tk_row (x y : Int × Int × Int) (h : tk (gRow x) = tk (gRow y)) : x = y := by
  obtain ⟨a, b, c⟩ := x
  obtain ⟨d, e, f⟩ := y
  simp [tk, gRow, PySem.W.keyToksAll, PySem.W.keyToks] at h
  rw [h.1, h.2.1, h.2.2]
theorem tk_pr (x y : Int × Int × (Int × Int)) (h : tk (gPr x) = tk (gPr y)) : x = y := by
  obtain ⟨a, b, c, i⟩ := x
  obtain ⟨d, e, f, j⟩ := y
  simp [tk, gPr, PySem.W.keyToksAll, PySem.W.keyToks] at h
  rw [h.1, h.2.1, h.2.2.1, h.2.2.2]
end Mu
/-! Sets, weights. -/
namespace Mu
open PySem PySem.Spec PyProof.Rows L2
local macro_rules | `(tactic| walk_at "mu le") => `(tactic| (repeat (first | exact trivial | refine ⟨by first | exact Or.inr rfl | exact Or.inl rfl, ?_⟩)))
abbrev dLS (s : List Str) : Dn := dL (s.map dS)
abbrev dLot (l : List (List Str)) : Dn := dL (l.map dLS)
abbrev Wt := List (Str × Int)
abbrev dWt (W : Wt) : Dn := dD (W.map fun p => (p.1, V.int p.2))
abbrev dPr (r : Int × Int × (Int × Int)) : Dn := dT [dI r.1, dI r.2.1, d2 r.2.2]
abbrev dRow (r : Int × Int × Int) : Dn := dT [dI r.1, dI r.2.1, dI r.2.2]
def wget (W : Wt) (x : Str) : Int := (W.lookup x).getD 1
def wt (s : List Str) (W : Wt) : Int := (s.map (wget W)).sum
def com (s o : List Str) : List Str := s.filter fun x => decide (x ∈ o)
def cw (s o : List Str) (W : Wt) : Int := wt (com s o) W
structure OkWord (x : Str) : Prop where
  h1 : 1 ≤ x.length
  h2 : x.length ≤ 30
  h3 : ∀ c ∈ x.cps.toList, c ∈ signsZ.cps.toList
structure OkS (s : List Str) : Prop where
  nd : s.Nodup
  w : ∀ x ∈ s, OkWord x
  l : s.length ≤ 20
structure OkLot (l : List (List Str)) : Prop where
  n : l.length ≤ 13
  s : ∀ s ∈ l, OkS s
structure OkW (W : Wt) : Prop where
  w : ∀ p ∈ W, OkWord p.1 ∧ 1 ≤ p.2 ∧ p.2 ≤ 1000000
theorem lookup_mem {W : Wt} {x : Str} {v : Int} (h : W.lookup x = some v) : (x, v) ∈ W := by
  induction W with
  | nil => cases h
  | cons p W ih =>
    obtain ⟨y, u⟩ := p
    rw [List.lookup_cons] at h
    by_cases e : x = y
    · subst e
      simp at h
      rw [h]
      exact List.mem_cons_self
    · have : (x == y) = false := by simpa [beq_eq_false_iff_ne] using e
      rw [this] at h
      exact List.mem_cons_of_mem _ (ih h)
theorem wlook (W : Wt) (x : Str) : (W.map fun p => (p.1, V.int p.2)).lookup x = (W.lookup x).map V.int := by
  induction W with
  | nil => rfl
  | cons p W ih =>
    obtain ⟨y, u⟩ := p
    rw [List.map_cons, List.lookup_cons, List.lookup_cons]
    by_cases e : x = y
    · subst e
      simp
    · have : (x == y) = false := by simpa [beq_eq_false_iff_ne] using e
      rw [this]
      exact ih
theorem wget_bd {W : Wt} (h : OkW W) (x : Str) : 1 ≤ wget W x ∧ wget W x ≤ 1000000 := by
  unfold wget
  cases e : W.lookup x with
  | none => exact ⟨by decide, by decide⟩
  | some v => exact (h.w _ (lookup_mem e)).2
theorem wt_cons (x : Str) (s : List Str) (W : Wt) : wt (x :: s) W = wget W x + wt s W := by
  unfold wt
  rw [List.map_cons, List.sum_cons]
theorem wt_bd {W : Wt} (h : OkW W) : ∀ s : List Str, (s.length : Int) ≤ wt s W ∧ wt s W ≤ 1000000 * s.length
  | [] => ⟨Int.le_refl _, Int.le_refl _⟩
  | x :: s => by
    rw [wt_cons, List.length_cons]
    have h1 := wt_bd h s
    have h2 := wget_bd h x
    omega
theorem wt_wg {W : Wt} (h : OkW W) {s : List Str} (l : s.length ≤ 20) : Wg (wt s W) := by
  have := wt_bd h s
  exact ⟨by omega, by omega⟩
theorem wt_app (s u : List Str) (W : Wt) : wt (s ++ u) W = wt s W + wt u W := by
  unfold wt
  rw [List.map_append, List.sum_append]
theorem wt_perm {s u : List Str} (h : s.Perm u) (W : Wt) : wt s W = wt u W := by
  induction h with
  | nil => rfl
  | cons x _ ih => rw [wt_cons, wt_cons, ih]
  | swap x y l => rw [wt_cons, wt_cons, wt_cons, wt_cons]; omega
  | trans _ _ h1 h2 => rw [h1, h2]
theorem wt_fil {W : Wt} (h : OkW W) (f : Str → Bool) : ∀ s : List Str, wt (s.filter f) W ≤ wt s W
  | [] => Int.le_refl _
  | x :: s => by
    have h1 := wt_fil h f s
    have h2 := wget_bd h x
    by_cases e : f x = true
    · rw [List.filter_cons_of_pos e, wt_cons, wt_cons]; omega
    · rw [List.filter_cons_of_neg e, wt_cons]; omega
theorem com_perm {s o : List Str} (h1 : s.Nodup) (h2 : o.Nodup) : (com s o).Perm (com o s) := by
  refine (List.perm_ext_iff_of_nodup (h1.filter _) (h2.filter _)).mpr fun x => ?_
  simp only [com, List.mem_filter, decide_eq_true_eq]
  exact And.comm
theorem cw_comm {s o : List Str} (h1 : s.Nodup) (h2 : o.Nodup) (W : Wt) : cw s o W = cw o s W := wt_perm (com_perm h1 h2) W
theorem cw_le {W : Wt} (h : OkW W) (s o : List Str) : cw s o W ≤ wt s W := wt_fil h _ s
theorem cw_le2 {W : Wt} (h : OkW W) {s o : List Str} (h1 : s.Nodup) (h2 : o.Nodup) : cw s o W ≤ wt o W := by
  rw [cw_comm h1 h2]; exact cw_le h o s
theorem cw_wg {W : Wt} (h : OkW W) {s o : List Str} (l : s.length ≤ 20) : Wg (cw s o W) := wt_wg h (Nat.le_trans (List.length_filter_le _ _) l)
theorem OkLot.gt {l : List (List Str)} (h : OkLot l) {i : Nat} (hi : i < l.length) : OkS (gt l i) := h.s _ (gt_mem hi)
section
variable {P : Program} {w : World} {K : PySem.W.Frag} {mg : Str → Option Value} {base : Heap} {kA : Addr}
def f_is_word := Fs (fun x : Str => OkWord x) (fun x => [dS x]) (fun _ => dB true)
theorem sc_is_word : FnScope ["text", "sign"] ["text"] (defScope s_is_word) := ⟨rfl, rfl, rfl, by decide +kernel, rfl, by decide +kernel, by decide +kernel⟩
theorem bd_is_word : BindOk "is_word" s_is_word ["text"] := fun _ _ _ _ _ _ us hl => match us, hl with | [_], _ => rfl
theorem ok_is_word (T : Txt K mg kA signsZ kindsL) (F : DefF K mg "is_word" s_is_word) : Cal P w K mg base 1 "is_word" (spF f_is_word) := by
  refine cal_fs F sc_is_word bd_is_word (fun z => by first | rfl | (cases z <;> rfl)) (fun f cdv A outer s H E hr => ⟨_, (pss_cons (ps_ret (pe_and (pe_chain op_le op_le pe_int (pe_callB call_len_str (by rfl) T.len PySem.boot_len (pa_cons (pv 0) pa_nil)) pe_int) (pe_one (pe_callB (k_all K rfl rfl) (by rfl) T.all (by decide +kernel) (pa_cons (pe_lc (own := [("sign", 1)]) (g := (gName 1)) (tt := tYes) rfl sc_is_word.nd (pi_str (pv 0)) (blkOk_by (N := ["text", "sign"]) (sc := defScope s_is_word) (by decide +kernel)) (fun _ _ _ _ _ => (pg_name (i := 1) sc_is_word.nd rfl (Or.inl rfl))) (fun _ _ _ _ _ => pts_nil) (fun _ _ _ _ _ => (pe_cmpR op_inS (pv 1) (pe_signs T.signs rfl) rfl))) pa_nil)))))
    pss_nil), ?_⟩)
  rintro x h
  have h : OkWord x := h
  refine go_ret ((ev_andV (ev_chain ev_int (ev_cb (ea_cons (ev_var rfl) ea_nil) (rc_lenS (by have := h.h2; omega))) rv_le ev_int rv_le) (fun _ => (ev_cb (ea_cons (((en_lc0 _ _ _ _ (fun c => dB (decide (c ∈ signsZ.cps.toList))) (wi_str (ev_var rfl)) (fun _ => tg_name) (fun x hx => (ev_op (ev_var rfl) ev_str rv_inS)) (by rw [Array.length_toList]; have := h.h2; show x.length ≤ _; omega) (by decide)).is (List.map_map (g := dB) (f := fun c => decide (c ∈ signsZ.cps.toList))).symm).ev) ea_nil) rc_all))).is ?_)
  show dB _ = dB true
  congr 1
  have e1 : (x.cps.toList.map fun c => decide (c ∈ signsZ.cps.toList)).all id = true := by
    rw [List.all_map]
    exact List.all_eq_true.mpr fun c hc => decide_eq_true (h.h3 c hc)
  rw [e1, Bool.and_true, Bool.and_eq_true, decide_eq_true_eq, decide_eq_true_eq]
  exact ⟨by have := h.h1; omega, by have := h.h2; omega⟩
def f_check_sets := Fs (fun l : List (List Str) => OkLot l) (fun l => [dLot l]) (fun _ => dN)
theorem all_true {α : Type} {xs : List α} {f : α → Bool} (h : ∀ x ∈ xs, f x = true) : (xs.map f).all id = true := by
  rw [List.all_map]; exact List.all_eq_true.mpr h
theorem sc_check_sets : FnScope ["lot", "words", "word"] ["lot"] (defScope s_check_sets) := ⟨rfl, rfl, rfl, by decide +kernel, rfl, by decide +kernel, by decide +kernel⟩
theorem bd_check_sets : BindOk "check_sets" s_check_sets ["lot"] := fun _ _ _ _ _ _ us hl => match us, hl with | [_], _ => rfl
theorem ok_check_sets (T : Txt K mg kA signsZ kindsL) (F : DefF K mg "check_sets" s_check_sets) (c_is_word : Cal P w K mg base 1 "is_word" (spF f_is_word)) : Cal P w K mg base 2 "check_sets" (spF f_check_sets) := by
  refine cal_fsE F sc_check_sets bd_check_sets (fun z => by first | rfl | (cases z <;> rfl)) (fun f cdv A outer s H E hr => ⟨_, (pss_cons (ps_for PassesOwn.never rfl (pi_list (pv 0)) (pg_name (i := 1) sc_check_sets.nd rfl (Or.inl rfl)) (pss_cons (ps_if (PW.pt (pw_or (pt_not (pt_val (pe_callB (k_all K rfl rfl) (by rfl) T.all (by decide +kernel) (pa_cons (pe_lc (own := [("word", 2)]) (g := (gName 2)) (tt := tYes) rfl sc_check_sets.nd (pi_list (pv 1)) (blkOk_by (N := ["lot", "words", "word"]) (sc := defScope s_check_sets) (by decide +kernel)) (fun _ _ _ _ _ => (pg_name (i := 2) sc_check_sets.nd rfl (Or.inl rfl))) (fun _ _ _ _ _ => pts_nil) (fun _ _ _ _ _ => (pe_cal c_is_word hr (by decide : (1 : Nat) ≤ 1) rfl (pa_cons (pv 2) pa_nil)))) pa_nil)))) (pw_or1 (pt_cmpR op_ne (pe_lenSetS (by rfl) T.len (by rfl) T.set (pv 1)) (pe_callB (k_len K rfl) (by rfl) T.len PySem.boot_len (pa_cons (pv 1) pa_nil)) (nomark _))))) (pss_cons ps_never
    pss_nil) pss_nil)
    pss_nil))
    pss_nil), ?_⟩)
  rintro l h
  have h : OkLot l := h
  refine go_for _ _ _ _ (fun pre => [some (dLot l), none, none]) (fun pre => none) (wi_list (ev_var rfl)) (fun _ => tg_name) (by walk_at "mu le") rfl (fun pre s post e => ?_) go_end ok_n
  have hs := h.s s (pre_len e).2
  refine go_if (et_or (et_not (et_B (ev_cb (ea_cons (((en_lc0 _ _ _ _ (fun x => dB true) (wi_list (ev_var rfl)) (fun _ => tg_name) (fun x hx => (ev_call (ea_cons (ev_var rfl) ea_nil) ⟨x, hs.w x hx, rfl, rfl⟩)) (by have := hs.l; omega) (by decide)).is (List.map_map (g := dB) (f := fun _ => true)).symm).ev) ea_nil) rc_all))) (fun _ => (et_test (ev_op (ev_lenSetS (ev_var rfl) hs.nd (by have := hs.l; omega)) (ev_cb (ea_cons (ev_var rfl) ea_nil) rc_len) rv_neI)))) (fun hb => ?_) (fun hb => ?_)
  · exfalso
    rw [all_true (fun _ _ => rfl), List.length_map] at hb
    simp at hb
  · refine go_nextz (go_next ?_)
    walk_at "mu le"
def f_check_weights := Fs (fun W : Wt => OkW W ∧ (W.map Prod.fst).Nodup) (fun W => [dWt W]) (fun _ => dN)
theorem look_nd {α : Type} : ∀ {W : List (Str × α)} {p : Str × α}, (W.map Prod.fst).Nodup → p ∈ W → W.lookup p.1 = some p.2
  | q :: W, p, hn, hp => by
    rw [List.map_cons, List.nodup_cons] at hn
    rw [List.lookup_cons]
    rcases List.mem_cons.mp hp with e | hp
    · subst e; simp
    · have : (p.1 == q.1) = false := by
        rw [beq_eq_false_iff_ne]
        intro e
        exact hn.1 (e ▸ List.mem_map_of_mem hp)
      rw [this]
      exact look_nd hn.2 hp
theorem sc_check_weights : FnScope ["weights", "word"] ["weights"] (defScope s_check_weights) := ⟨rfl, rfl, rfl, by decide +kernel, rfl, by decide +kernel, by decide +kernel⟩
theorem bd_check_weights : BindOk "check_weights" s_check_weights ["weights"] := fun _ _ _ _ _ _ us hl => match us, hl with | [_], _ => rfl
theorem ok_check_weights (T : Txt K mg kA signsZ kindsL) (F : DefF K mg "check_weights" s_check_weights) (c_is_word : Cal P w K mg base 1 "is_word" (spF f_is_word)) : Cal P w K mg base 2 "check_weights" (spF f_check_weights) := by
  refine cal_fsE F sc_check_weights bd_check_weights (fun z => by first | rfl | (cases z <;> rfl)) (fun f cdv A outer s H E hr => ⟨_, (pss_cons (ps_lock (ps_for PassesOwn.never rfl (pi_keys (pv 0)) (pg_name (i := 1) sc_check_weights.nd rfl (Or.inl rfl)) (pss_cons (ps_if (PW.pt (pw_or (pt_not (pt_val (pe_cal c_is_word hr (by decide : (1 : Nat) ≤ 1) rfl (pa_cons (pv 1) pa_nil)))) (pw_or1 (pt_cmpR op_lt (pe_dget (hu_of hr) (pv 0) (pv 1) (fun _ _ => rfl)) pe_int (nomark _))))) (pss_cons ps_never
    pss_nil) pss_nil)
    pss_nil)))
    pss_nil), ?_⟩)
  rintro W ⟨h, hn⟩
  have h : OkW W := h
  refine go_lockE fun od => ?_
  refine go_for W (fun p => dS p.1) _ _ (fun pre => [some (dDf od (W.map fun p => (p.1, V.int p.2))), none]) (fun pre => none) (wi_is (wi_keysF (ev_var rfl)) (by rw [List.map_map]; rfl)) (fun _ => tg_name) (by walk_at "mu le") rfl (fun pre p post e => ?_) go_end ok_n
  have hp := (pre_len e).2
  have hw := h.w p hp
  refine go_if (et_or (et_not (et_B (ev_call (ea_cons (ev_var rfl) ea_nil) ⟨p.1, hw.1, rfl, rfl⟩))) (fun _ => (et_test (ev_op (ev_dgetF (z := dI p.2) (w := V.int p.2) (ev_var rfl) (ev_var rfl) (by rw [wlook, look_nd hn hp]; rfl) (fun _ => rfl)) ev_int rv_lt)))) (fun hb => ?_) (fun hb => ?_)
  · exfalso
    simp at hb
    omega
  · refine go_nextz (go_next ?_)
    walk_at "mu le"
def f_check_lot := Fs (fun x : List (List Str) × Wt => OkLot x.1 ∧ OkW x.2 ∧ (x.2.map Prod.fst).Nodup) (fun x => [dLot x.1, dWt x.2]) (fun _ => dN)
theorem sc_check_lot : FnScope ["lot", "weights"] ["lot", "weights"] (defScope s_check_lot) := ⟨rfl, rfl, rfl, by decide +kernel, rfl, by decide +kernel, by decide +kernel⟩
theorem bd_check_lot : BindOk "check_lot" s_check_lot ["lot", "weights"] := fun _ _ _ _ _ _ us hl => match us, hl with | [_, _], _ => rfl
theorem ok_check_lot (T : Txt K mg kA signsZ kindsL) (F : DefF K mg "check_lot" s_check_lot) (c_check_sets : Cal P w K mg base 2 "check_sets" (spF f_check_sets)) (c_check_weights : Cal P w K mg base 2 "check_weights" (spF f_check_weights)) : Cal P w K mg base 3 "check_lot" (spF f_check_lot) := by
  refine cal_fsE F sc_check_lot bd_check_lot (fun z => by first | rfl | (cases z <;> rfl)) (fun f cdv A outer s H E hr => ⟨_, (pss_cons (ps_expr (pe_cal c_check_sets hr (by decide : (2 : Nat) ≤ 2) rfl (pa_cons (pv 0) pa_nil)))
    (pss_cons (ps_expr (pe_cal c_check_weights hr (by decide : (2 : Nat) ≤ 2) rfl (pa_cons (pv 1) pa_nil)))
    pss_nil)), ?_⟩)
  rintro ⟨l, W⟩ ⟨h1, h2, h3⟩
  refine go_drop (ev_call (ea_cons (ev_var rfl) ea_nil) ⟨l, h1, rfl, rfl⟩) ?_
  refine go_drop (ev_call (ea_cons (ev_var rfl) ea_nil) ⟨W, ⟨h2, h3⟩, rfl, rfl⟩) ?_
  exact go_end
def f_weight := Fs (fun x : List Str × Wt => x.1.length ≤ 1000) (fun x => [dLS x.1, dWt x.2]) (fun x => dI (wt x.1 x.2))
theorem wget_p {W : Wt} {x : Str} (v : V) (N : Hp) (h : (dI 1).p v N) : (dI (wget W x)).p (((W.map fun p => (p.1, V.int p.2)).lookup x).getD v) N := by
  cases (show v = V.int 1 from h)
  show _ = V.int ((W.lookup x).getD 1)
  rw [wlook]
  cases W.lookup x <;> rfl
theorem sc_weight : FnScope ["words", "weights", "word"] ["words", "weights"] (defScope s_weight) := ⟨rfl, rfl, rfl, by decide +kernel, rfl, by decide +kernel, by decide +kernel⟩
theorem bd_weight : BindOk "weight" s_weight ["words", "weights"] := fun _ _ _ _ _ _ us hl => match us, hl with | [_, _], _ => rfl
theorem ok_weight (T : Txt K mg kA signsZ kindsL) (F : DefF K mg "weight" s_weight) : Cal P w K mg base 1 "weight" (spF f_weight) := by
  refine cal_fs F sc_weight bd_weight (fun z => by first | rfl | (cases z <;> rfl)) (fun f cdv A outer s H E hr => ⟨_, (pss_cons (ps_ret (pe_callB (k_sum K rfl rfl) (by rfl) T.sum (by decide +kernel) (pa_cons (pe_lc (own := [("word", 2)]) (g := (gName 2)) (tt := tYes) rfl sc_weight.nd (pi_list (pv 0)) (blkOk_by (N := ["words", "weights", "word"]) (sc := defScope s_weight) (by decide +kernel)) (fun _ _ _ _ _ => (pg_name (i := 2) sc_weight.nd rfl (Or.inl rfl))) (fun _ _ _ _ _ => pts_nil) (fun _ _ _ _ _ => (pe_dget2 (hu_of hr) (pv 1) (pv 2) pe_int (mk_M2 rfl rfl rfl)))) pa_nil)))
    pss_nil), ?_⟩)
  rintro ⟨s, W⟩ h
  have h : s.length ≤ 1000 := h
  exact go_ret (ev_cb (ea_cons (((en_lc0 _ _ _ _ (fun x => dI (wget W x)) (wi_list (ev_var rfl)) (fun _ => tg_name) (fun x hx => (ev_dget2 (ev_var rfl) (ev_var rfl) ev_int wget_p)) (by omega) (by decide)).is (List.map_map (g := dI) (f := wget W)).symm).ev) ea_nil) rc_sum)
def f_common := Fs (fun x : List Str × List Str × Wt => x.1.length ≤ 20) (fun x => [dLS x.1, dLS x.2.1, dWt x.2.2]) (fun x => dT [dA, dI (cw x.1 x.2.1 x.2.2)])
theorem sc_common : FnScope ["one", "other", "weights", "words", "word"] ["one", "other", "weights"] (defScope s_common) := ⟨rfl, rfl, rfl, by decide +kernel, rfl, by decide +kernel, by decide +kernel⟩
theorem bd_common : BindOk "common" s_common ["one", "other", "weights"] := fun _ _ _ _ _ _ us hl => match us, hl with | [_, _, _], _ => rfl
theorem ok_common (T : Txt K mg kA signsZ kindsL) (F : DefF K mg "common" s_common) (c_weight : Cal P w K mg base 1 "weight" (spF f_weight)) : Cal P w K mg base 2 "common" (spF f_common) := by
  refine cal_fs F sc_common bd_common (fun z => by first | rfl | (cases z <;> rfl)) (fun f cdv A outer s H E hr => ⟨_, (pss_cons (ps_set (i := 3) sc_common.nd rfl (Or.inl rfl) (pe_callB (k_sortedS K rfl) (by rfl) T.sorted (by decide +kernel) (pa_cons (pe_lc (own := [("word", 4)]) (g := (gName 4)) rfl sc_common.nd (pi_list (pv 0)) (blkOk_by (N := ["one", "other", "weights", "words", "word"]) (sc := defScope s_common) (by decide +kernel)) (fun _ _ _ _ _ => (pg_name (i := 4) sc_common.nd rfl (Or.inl rfl))) (fun _ _ _ _ _ => pts_one (pt_cmpR (k_in K rfl) (pv 4) (pv 1) (by rfl))) (fun _ _ _ _ _ => (pv 4))) pa_nil)))
    (pss_cons (ps_ret (pe_tup (pa_cons (pv 3) (pa_cons (pe_cal c_weight hr (by decide : (1 : Nat) ≤ 1) rfl (pa_cons (pv 3) (pa_cons (pv 2) pa_nil))) pa_nil))))
    pss_nil)), ?_⟩)
  rintro ⟨s, o, W⟩ h
  have h : s.length ≤ 20 := h
  have hl : (com s o).length ≤ 20 := Nat.le_trans (List.length_filter_le _ _) h
  refine go_asg (ev_cb (ea_cons ((en_lc _ _ _ _ _ dS (wi_list (ev_var rfl)) (fun _ => tg_name) (fun x hx => (et_test (ev_op (ev_var rfl) (ev_var rfl) rv_in))) (fun x hx hf => (ev_var rfl)) (by omega) (by decide)).ev) ea_nil) (rc_sortedS (show (com s o).length < 64 by omega))) ?_
  refine go_ex (i := 3) rfl fun ys hy => ?_
  refine go_ret (ev_tup (ea_cons (ev_var rfl).any (ea_cons ((ev_call (ea_cons (ev_var rfl) (ea_cons (ev_var rfl) ea_nil)) ⟨(ys, W), (by have hq : ys.length = (com s o).length := hy.length_eq; show ys.length ≤ 1000; omega), rfl, rfl⟩).is ?_) ea_nil)))
  show dI (wt ys W) = dI (wt (com s o) W)
  exact congrArg dI (wt_perm hy W)
def shr (k : Kd) (s o : List Str) (W : Wt) : Int × Int := shareOf k (wt s W) (wt o W) (cw s o W)
def f_share_between := Fs (fun x : Kd × List Str × List Str × Wt => OkS x.2.1 ∧ OkS x.2.2.1 ∧ OkW x.2.2.2) (fun x => [dK x.1, dLS x.2.1, dLS x.2.2.1, dWt x.2.2.2]) (fun x => d2 (shr x.1 x.2.1 x.2.2.1 x.2.2.2))
theorem sc_share_between : FnScope ["kind", "one", "other", "weights"] ["kind", "one", "other", "weights"] (defScope s_share_between) := ⟨rfl, rfl, rfl, by decide +kernel, rfl, by decide +kernel, by decide +kernel⟩
theorem bd_share_between : BindOk "share_between" s_share_between ["kind", "one", "other", "weights"] := fun _ _ _ _ _ _ us hl => match us, hl with | [_, _, _, _], _ => rfl
theorem ok_share_between (T : Txt K mg kA signsZ kindsL) (F : DefF K mg "share_between" s_share_between) (c_share_of : Cal P w K mg base 3 "share_of" (spF f_share_of)) (c_weight : Cal P w K mg base 1 "weight" (spF f_weight)) (c_common : Cal P w K mg base 2 "common" (spF f_common)) : Cal P w K mg base 4 "share_between" (spF f_share_between) := by
  refine cal_fs F sc_share_between bd_share_between (fun z => by first | rfl | (cases z <;> rfl)) (fun f cdv A outer s H E hr => ⟨_, (pss_cons (ps_ret (pe_cal c_share_of hr (by decide : (3 : Nat) ≤ 3) rfl (pa_cons (pv 0) (pa_cons (pe_cal c_weight hr (by decide : (1 : Nat) ≤ 3) rfl (pa_cons (pv 1) (pa_cons (pv 3) pa_nil))) (pa_cons (pe_cal c_weight hr (by decide : (1 : Nat) ≤ 3) rfl (pa_cons (pv 2) (pa_cons (pv 3) pa_nil))) (pa_cons (pe_ix (k_ixT K rfl) (pe_cal c_common hr (by decide : (2 : Nat) ≤ 3) rfl (pa_cons (pv 1) (pa_cons (pv 2) (pa_cons (pv 3) pa_nil)))) pe_int (fun _ _ => rfl)) pa_nil))))))
    pss_nil), ?_⟩)
  rintro ⟨k, s, o, W⟩ ⟨h1, h2, h3⟩
  have h1 : OkS s := h1
  have h2 : OkS o := h2
  have h3 : OkW W := h3
  exact go_ret (ev_call (ea_cons (ev_var rfl) (ea_cons (ev_call (ea_cons (ev_var rfl) (ea_cons (ev_var rfl) ea_nil)) ⟨(s, W), (by have := h1.l; show s.length ≤ _; omega), rfl, rfl⟩) (ea_cons (ev_call (ea_cons (ev_var rfl) (ea_cons (ev_var rfl) ea_nil)) ⟨(o, W), (by have := h2.l; show o.length ≤ _; omega), rfl, rfl⟩) (ea_cons (ev_op (ev_call (ea_cons (ev_var rfl) (ea_cons (ev_var rfl) (ea_cons (ev_var rfl) ea_nil))) ⟨(s, o, W), h1.l, rfl, rfl⟩) ev_int (rv_ixT rfl)) ea_nil)))) ⟨(k, wt s W, wt o W, cw s o W), ⟨wt_wg h3 h1.l, wt_wg h3 h2.l, cw_wg h3 h1.l, cw_le h3 s o, cw_le2 h3 h1.nd h2.nd⟩, rfl, rfl⟩)
/-- not less than the least -/
def enough (t b : Int) (r : Int × Int) : Bool := !decide (r.1 * b < t * r.2)
def plainPairs (k : Kd) (t b : Int) (l : List (List Str)) (W : Wt) : List (Int × Int × (Int × Int)) := ((IJ l.length).filter fun p => enough t b (shr k (gt l p.1) (gt l p.2) W)).map fun p => ((p.1 : Int), (p.2 : Int), shr k (gt l p.1) (gt l p.2) W)
def f_plain_pairs := Fs (fun x : Kd × (Int × Int) × List (List Str) × Wt => Lst x.2.1.1 x.2.1.2 ∧ OkLot x.2.2.1 ∧ OkW x.2.2.2 ∧ (x.2.2.2.map Prod.fst).Nodup) (fun x => [dK x.1, d2 x.2.1, dLot x.2.2.1, dWt x.2.2.2]) (fun x => dL ((plainPairs x.1 x.2.1.1 x.2.1.2 x.2.2.1 x.2.2.2).map dPr))
theorem frac_bt {x y : Int} (h : Bt 30 x) (h' : Bt 30 y) (hy : 0 < y) : Bt 30 (frac x y).1 ∧ Bt 30 (frac x y).2 := by
  have g := gcd_pos (x := x) hy
  unfold frac
  have aux : ∀ z : Int, Bt 30 z → Bt 30 (z / (Int.gcd x y : Int)) := fun z hz => ⟨Int.ediv_nonneg hz.1 (by omega), Int.lt_of_le_of_lt (Int.ediv_le_self _ hz.1) hz.2⟩
  exact ⟨aux x h, aux y h'⟩
theorem shareOf_bt {k : Kd} {a b c : Int} (h1 : Wg a) (h2 : Wg b) (h3 : Wg c) (h4 : c ≤ a) (h5 : c ≤ b) : Bt 30 (shareOf k a b c).1 ∧ Bt 30 (shareOf k a b c).2 := by
  unfold shareOf
  split
  · exact ⟨⟨by decide, by decide⟩, ⟨by decide, by decide⟩⟩
  rename_i hz
  have b1 := h1.bt
  have b2 := h2.bt
  have b3 := h3.bt
  obtain ⟨a1, a2⟩ := h1
  obtain ⟨c1, c2⟩ := h2
  obtain ⟨e1, e2⟩ := h3
  have hz : ¬ (a = 0 ∨ b = 0) := hz
  cases k with
  | both => exact frac_bt (b3.le (by decide)) ⟨by omega, by omega⟩ (by omega)
  | mean => exact frac_bt ⟨by omega, by omega⟩ ⟨by omega, by omega⟩ (by omega)
  | greater => exact frac_bt (b3.le (by decide)) ⟨by omega, by omega⟩ (by omega)
  | lesser => exact frac_bt (b3.le (by decide)) ⟨by omega, by omega⟩ (by omega)
  | square => exact frac_bt ((b3.mul b3).le (by decide)) ((b1.mul b2).le (by decide)) (Int.mul_pos (by omega) (by omega))
theorem shr_bt {k : Kd} {s o : List Str} {W : Wt} (h1 : OkS s) (h2 : OkS o) (h3 : OkW W) : Bt 30 (shr k s o W).1 ∧ Bt 30 (shr k s o W).2 := shareOf_bt (wt_wg h3 h1.l) (wt_wg h3 h2.l) (cw_wg h3 h1.l) (cw_le h3 s o) (cw_le2 h3 h1.nd h2.nd)
theorem sc_plain_pairs : FnScope ["kind", "least", "lot", "weights", "told", "i", "one", "j", "share"] ["kind", "least", "lot", "weights"] (defScope s_plain_pairs) := ⟨rfl, rfl, rfl, by decide +kernel, rfl, by decide +kernel, by decide +kernel⟩
theorem bd_plain_pairs : BindOk "plain_pairs" s_plain_pairs ["kind", "least", "lot", "weights"] := fun _ _ _ _ _ _ us hl => match us, hl with | [_, _, _, _], _ => rfl
theorem ok_plain_pairs (T : Txt K mg kA signsZ kindsL) (F : DefF K mg "plain_pairs" s_plain_pairs) (c_is_less : Cal P w K mg base 1 "is_less" (spF f_is_less)) (c_check_least : Cal P w K mg base 2 "check_least" (spF f_check_least)) (c_check_lot : Cal P w K mg base 3 "check_lot" (spF f_check_lot)) (c_share_between : Cal P w K mg base 4 "share_between" (spF f_share_between)) : Cal P w K mg base 5 "plain_pairs" (spF f_plain_pairs) := by
  refine cal_fs F sc_plain_pairs bd_plain_pairs (fun z => by first | rfl | (cases z <;> rfl)) (fun f cdv A outer s H E hr => ⟨_, (pss_cons (ps_expr (pe_cal c_check_least hr (by decide : (2 : Nat) ≤ 4) rfl (pa_cons (pv 0) (pa_cons (pv 1) pa_nil))))
    (pss_cons (ps_expr (pe_cal c_check_lot hr (by decide : (3 : Nat) ≤ 4) rfl (pa_cons (pv 2) (pa_cons (pv 3) pa_nil))))
    (pss_cons (ps_set (i := 4) sc_plain_pairs.nd rfl (Or.inl rfl) (pe_lst pa_nil))
    (pss_cons (ps_for PassesOwn.never rfl (pi_enum (by rfl) T.enumerate (pa_cons (pv 2) pa_nil)) (pg_tup rfl (pgs_cons (pg_name (i := 5) sc_plain_pairs.nd rfl (Or.inl rfl)) (pgs_cons (pg_name (i := 6) sc_plain_pairs.nd rfl (Or.inl rfl)) pgs_nil))) (pss_cons (ps_for PassesOwn.never rfl (pi_range2 rfl T.range (pa_cons (pe_op op_add (pv 5) pe_int) (pa_cons (pe_callB (k_len K rfl) (by rfl) T.len PySem.boot_len (pa_cons (pv 2) pa_nil)) pa_nil))) (pg_name (i := 7) sc_plain_pairs.nd rfl (Or.inl rfl)) (pss_cons (ps_set (i := 8) sc_plain_pairs.nd rfl (Or.inl rfl) (pe_cal c_share_between hr (by decide : (4 : Nat) ≤ 4) rfl (pa_cons (pv 0) (pa_cons (pv 6) (pa_cons (pe_ix (k_ixL K rfl) (pv 2) (pv 7) (fun _ _ => rfl)) (pa_cons (pv 3) pa_nil))))))
    (pss_cons (ps_if (pt_not (pt_val (pe_cal c_is_less hr (by decide : (1 : Nat) ≤ 4) rfl (pa_cons (pv 8) (pa_cons (pv 1) pa_nil))))) (pss_cons (ps_expr (pe_bm PySem.F.plainAttrs_list PySem.F.slot_list_append PySem.F.type_list_append mt_append (pv 4) (pa_cons (pe_tup (pa_cons (pv 5) (pa_cons (pv 7) (pa_cons (pv 8) pa_nil)))) pa_nil)))
    pss_nil) pss_nil)
    pss_nil)))
    pss_nil))
    (pss_cons (ps_ret (pv 4))
    pss_nil))))), ?_⟩)
  rintro ⟨k, ⟨t, b⟩, l, W⟩ ⟨h1, h2, h3, h4⟩
  have h1 : Lst t b := h1
  have h2 : OkLot l := h2
  have h3 : OkW W := h3
  have h4 : (W.map Prod.fst).Nodup := h4
  have hn := h2.n
  have bt := h1.bt
  dsimp only
  let F : Nat → List (Int × Int × (Int × Int)) := fun i => ((List.range (l.length - (i + 1))).filter fun m => enough t b (shr k (gt l i) (gt l (i + 1 + m)) W)).map fun m => ((i : Int), ((i + 1 + m : Nat) : Int), shr k (gt l i) (gt l (i + 1 + m)) W)
  refine go_drop (ev_call (ea_cons (ev_var rfl) (ea_cons (ev_var rfl) ea_nil)) ⟨(k, t, b), h1, rfl, rfl⟩) ?_
  refine go_drop (ev_call (ea_cons (ev_var rfl) (ea_cons (ev_var rfl) ea_nil)) ⟨(l, W), ⟨h2, h3, h4⟩, rfl, rfl⟩) ?_
  refine go_asgN (en_lst ea_nil) ?_
  refine go_for _ _ _ _ (fun pre => [some (dK k), some (d2 (t, b)), some (dLot l), some (dWt W), none, none, none, none, none]) (fun pre => some (oL 4 ((pre.flatMap F).map dPr))) (wi_enumR (ea_cons (ev_var rfl) ea_nil)) (fun _ => tg_tup2) (by walk_at "mu le") rfl (fun pre i post e => ?_) ?_ ok_k
  · obtain ⟨e1, e2⟩ := range_len e
    have pl : (pre.flatMap F).length ≤ 13 * 13 := by
      refine Nat.le_trans (fm_len (n := 13) fun a _ => Nat.le_trans fil_le (by rw [List.length_range]; omega)) ?_
      exact Nat.mul_le_mul_right 13 (by omega)
    refine go_for _ _ _ _ (fun pre2 => [some (dK k), some (d2 (t, b)), some (dLot l), some (dWt W), none, some (dI i), some (dLS (gt l i)), none, none]) (fun pre2 => some (oL 4 ((pre.flatMap F ++ (pre2.filter fun m => enough t b (shr k (gt l i) (gt l (i + 1 + m)) W)).map fun m => ((i : Int), ((i + 1 + m : Nat) : Int), shr k (gt l i) (gt l (i + 1 + m)) W)).map dPr))) (wi_range2N (m := i + 1) (n := l.length) (ea_cons (ev_op (ev_var rfl) ev_int rv_add) (ea_cons ((ev_cb (ea_cons (ev_var rfl) ea_nil) rc_len).is (by rw [List.length_map])) ea_nil)) (by omega)) (fun _ => tg_name) (by walk_at "mu le") (by rw [List.filter_nil, List.map_nil, List.append_nil]) (fun pre2 m post2 e' => ?_) ?_ ok_k
    · obtain ⟨q1, q2⟩ := range_len e'
      have hj : i + 1 + m < l.length := by omega
      have sb := shr_bt (k := k) (h2.gt e2) (h2.gt hj) h3
      refine go_asg (ev_call (ea_cons (ev_var rfl) (ea_cons (ev_var rfl) (ea_cons (ev_op (ev_var rfl) (ev_var rfl) (rv_ixL (atI_gt dLS hj))) (ea_cons (ev_var rfl) ea_nil)))) ⟨(k, gt l i, gt l (i + 1 + m), W), ⟨h2.gt e2, h2.gt hj, h3⟩, rfl, rfl⟩) ?_
      refine go_if (et_not (et_B (ev_call (ea_cons (ev_var rfl) (ea_cons (ev_var rfl) ea_nil)) ⟨(shr k (gt l i) (gt l (i + 1 + m)) W, (t, b)), ⟨sb.1, sb.2, bt.1.le (by decide), bt.2.le (by decide)⟩, rfl, rfl⟩))) (fun hb => ?_) (fun hb => ?_)
      · refine go_assoc (go_app (ev_tup (ea_cons (ev_var rfl) (ea_cons (ev_var rfl) (ea_cons (ev_var rfl) ea_nil)))) ?_ ?_)
        · rw [List.length_map, List.length_append]
          have := fil_le (P := fun m => enough t b (shr k (gt l i) (gt l (i + 1 + m)) W)) (G := fun m => ((i : Int), ((i + 1 + m : Nat) : Int), shr k (gt l i) (gt l (i + 1 + m)) W)) (pre := pre2)
          omega
        · refine go_nextz (go_nextz (go_nextO (by walk_at "mu le") ?_))
          rw [fil_snoc (P := fun m => enough t b (shr k (gt l i) (gt l (i + 1 + m)) W)) hb, ← List.append_assoc]
          exact ol_snoc rfl
      · refine go_nextz (go_nextO (by walk_at "mu le") ?_)
        rw [fil_skip (P := fun m => enough t b (shr k (gt l i) (gt l (i + 1 + m)) W)) hb]
    · refine go_nextO (by walk_at "mu le") ?_
      rw [fm_snoc]
  · refine go_tell ?_
    refine go_ret ((ev_var rfl).is ?_)
    show dL _ = dL ((plainPairs k t b l W).map dPr)
    unfold plainPairs
    rw [IJ_fm]
end
end Mu
/-! Orders, parts, ways. -/
namespace Mu
open PySem PySem.Spec PyProof.Rows L2
local macro_rules | `(tactic| walk_at "mu le") => `(tactic| (repeat (first | exact trivial | refine ⟨by first | exact Or.inr rfl | exact Or.inl rfl, ?_⟩)))
theorem sign_small : ∀ c ∈ signsZ.cps.toList, c < 128 := by decide +kernel
theorem shp_word {x : Str} (h : OkWord x) : Shp 0 (.str x) := ⟨by
  simp only [PyData.canLay0, PyData.strOk]
  rw [Array.all_eq_true']
  intro c hc
  have := sign_small c (h.h3 c (Array.mem_toList_iff.mpr hc))
  exact decide_eq_true (by omega), by simp only [PyData.depth]; omega⟩
abbrev pS (s : List Str) : PyData := .list (s.map .str)
theorem dd_ls (s : List Str) : DD (dLS s) (pS s) := dd_lst fun _ _ => dd_str
theorem shp_ls {s : List Str} (h : ∀ x ∈ s, OkWord x) : Shp 1 (pS s) := shp_lst fun d hd => by
  obtain ⟨x, hx, rfl⟩ := List.mem_map.mp hd
  exact shp_word (h x hx)
def ordF (s ord : List Str) : List Str := ord.filter fun x => decide (x ∈ s)
noncomputable def bgn (k : Kd) (t b : Int) (s : List Str) (W : Wt) (ord : List Str) : List Str := if s = [] then [] else
  ((List.range (ordF s ord).length).filter fun i => decide (leastNeed k t b (wt s W) ≤ wt ((ordF s ord).drop i) W)).map (gt (ordF s ord))
def alike (s o : List Str) : Bool := s.any fun x => decide (x ∈ o)
def agreeB (s o part : List Str) : Bool := part.all fun x => decide (decide (x ∈ s) = decide (x ∈ o))
def agN (s o : List Str) (ps : List (List Str)) : List Int := ((List.range ps.length).filter fun i => agreeB s o (gt ps i)).map fun i : Nat => (i : Int)
noncomputable def roomN (k : Kd) (t b a c : Int) : Int := a + c - 2 * need k t b a c
noncomputable def partsHold (k : Kd) (t b : Int) (s o : List Str) (W : Wt) (ps : List (List Str)) : Bool := decide (max 0 ((ps.length : Int) - roomN k t b (wt s W) (wt o W)) ≤ ((agN s o ps).length : Int))
abbrev dNN (p : Nat × Nat) : Dn := d2 ((p.1 : Int), (p.2 : Int))
structure OkOrd (l : List (List Str)) (ord : List Str) : Prop where
  s : OkS ord
  c : ∀ s ∈ l, ∀ x ∈ s, x ∈ ord
structure OkPs (l : List (List Str)) (ps : List (List Str)) : Prop where
  ne : ps ≠ []
  n : ps.length ≤ 12
  s : OkS ps.flatten
  c : ∀ s ∈ l, ∀ x ∈ s, x ∈ ps.flatten
theorem OkPs.part {l ps : List (List Str)} (h : OkPs l ps) {p : List Str} (hp : p ∈ ps) : OkS p := by
  have sub : p.Sublist ps.flatten := List.sublist_flatten_of_mem hp
  exact ⟨h.s.nd.sublist sub, fun x hx => h.s.w x (sub.subset hx), Nat.le_trans sub.length_le h.s.l⟩
theorem ordF_ok {s ord : List Str} (h : OkS ord) : OkS (ordF s ord) := ⟨h.nd.filter _, fun x hx => h.w x (List.mem_filter.mp hx).1, Nat.le_trans (List.length_filter_le _ _) h.l⟩
theorem need_bt {k : Kd} {t b a c : Int} (h : Lst t b) (h1 : Wg a) (h2 : Wg c) : Bt 50 (need k t b a c) := by
  have b1 := h1.bt
  have b2 := h2.bt
  obtain ⟨t1, t2⟩ := h.bt
  obtain ⟨g1, g2, g3, _⟩ := h
  have hs : Bt 13 (a + c) := ⟨by have := h1.1; have := h2.1; omega, by have := b1.2; have := b2.2; omega⟩
  have aux : ∀ p q : Int, Bt 34 p → 0 < q → q < 10 ^ 34 → Bt 50 (up p q) := fun p q hp h1 h2 => (up_bt (n := 0) hp h1 h2).le (by decide)
  cases k with
  | both => exact aux _ _ ((t1.mul hs).le (by decide)) (by omega) (by omega)
  | mean => exact aux _ _ ((t1.mul hs).le (by decide)) (by omega) (by omega)
  | greater => exact aux _ _ ((t1.mul (⟨by have := h1.1; omega, by have := b1.2; have := b2.2; omega⟩ : Bt 13 (max a c))).le (by decide)) (by omega) (by omega)
  | lesser => exact aux _ _ ((t1.mul (⟨by have := h1.1; have := h2.1; omega, by have := b1.2; have := b2.2; omega⟩ : Bt 13 (min a c))).le (by decide)) (by omega) (by omega)
  | square =>
    have hn : Bt 50 (up (t * a * c) b) := aux _ _ (((t1.mul b1).mul b2).le (by decide)) (by omega) (by omega)
    have r := rootUp_is (up (t * a * c) b)
    refine ⟨r.h0, Int.lt_of_le_of_lt (r.h2 _ hn.1 ?_) hn.2⟩
    rcases Int.lt_or_le (up (t * a * c) b) 1 with z | z
    · have : (0 : Int) ≤ up (t * a * c) b * up (t * a * c) b := Int.mul_nonneg hn.1 hn.1
      omega
    · have := Int.mul_le_mul_of_nonneg_left (a := 1) (b := up (t * a * c) b) (c := up (t * a * c) b) z hn.1
      omega
theorem wt_pos {W : Wt} (h : OkW W) {s : List Str} (hs : s ≠ []) : 1 ≤ wt s W := by
  have := (wt_bd h s).1
  have := List.length_pos_iff.mpr hs
  omega
section
variable {P : Program} {w : World} {K : PySem.W.Frag} {mg : Str → Option Value} {base : Heap} {kA : Addr}
def f_in_order := Fs (fun x : List Str × List Str => x.2.length ≤ 1000) (fun x => [dLS x.1, dLS x.2]) (fun x => dLS (ordF x.1 x.2))
theorem sc_in_order : FnScope ["words", "order", "word"] ["words", "order"] (defScope s_in_order) := ⟨rfl, rfl, rfl, by decide +kernel, rfl, by decide +kernel, by decide +kernel⟩
theorem bd_in_order : BindOk "in_order" s_in_order ["words", "order"] := fun _ _ _ _ _ _ us hl => match us, hl with | [_, _], _ => rfl
theorem ok_in_order (T : Txt K mg kA signsZ kindsL) (F : DefF K mg "in_order" s_in_order) : Cal P w K mg base 1 "in_order" (spF f_in_order) := by
  refine cal_fs F sc_in_order bd_in_order (fun z => by first | rfl | (cases z <;> rfl)) (fun f cdv A outer s H E hr => ⟨_, (pss_cons (ps_ret (pe_lc (own := [("word", 2)]) (g := (gName 2)) rfl sc_in_order.nd (pi_list (pv 1)) (blkOk_by (N := ["words", "order", "word"]) (sc := defScope s_in_order) (by decide +kernel)) (fun _ _ _ _ _ => (pg_name (i := 2) sc_in_order.nd rfl (Or.inl rfl))) (fun _ _ _ _ _ => pts_one (pt_cmpR (k_in K rfl) (pv 2) (pv 0) (by rfl))) (fun _ _ _ _ _ => (pv 2))))
    pss_nil), ?_⟩)
  rintro ⟨s, o⟩ h
  dsimp only at h ⊢
  exact go_ret ((en_lc _ _ _ _ _ dS (wi_list (ev_var rfl)) (fun _ => tg_name) (fun x hx => (et_test (ev_op (ev_var rfl) (ev_var rfl) rv_in))) (fun x hx hf => (ev_var rfl)) (by omega) (by decide))).ev
def f_beginning := Fs (fun x : Kd × (Int × Int) × List Str × Wt × List Str => Lst x.2.1.1 x.2.1.2 ∧ OkS x.2.2.1 ∧ OkW x.2.2.2.1 ∧ OkS x.2.2.2.2) (fun x => [dK x.1, d2 x.2.1, dLS x.2.2.1, dWt x.2.2.2.1, dLS x.2.2.2.2]) (fun x => dLS (bgn x.1 x.2.1.1 x.2.1.2 x.2.2.1 x.2.2.2.1 x.2.2.2.2))
theorem sc_beginning : FnScope ["kind", "least", "words", "weights", "order", "few", "own", "k", "word"] ["kind", "least", "words", "weights", "order"] (defScope s_beginning) := ⟨rfl, rfl, rfl, by decide +kernel, rfl, by decide +kernel, by decide +kernel⟩
theorem bd_beginning : BindOk "beginning" s_beginning ["kind", "least", "words", "weights", "order"] := fun _ _ _ _ _ _ us hl => match us, hl with | [_, _, _, _, _], _ => rfl
theorem ok_beginning (T : Txt K mg kA signsZ kindsL) (F : DefF K mg "beginning" s_beginning) (c_check_kind : Cal P w K mg base 1 "check_kind" (spF f_check_kind)) (c_check_least : Cal P w K mg base 2 "check_least" (spF f_check_least)) (c_least_need : Cal P w K mg base 4 "least_need" (spF f_least_need)) (c_weight : Cal P w K mg base 1 "weight" (spF f_weight)) (c_in_order : Cal P w K mg base 1 "in_order" (spF f_in_order)) : Cal P w K mg base 5 "beginning" (spF f_beginning) := by
  refine cal_fs F sc_beginning bd_beginning (fun z => by first | rfl | (cases z <;> rfl)) (fun f cdv A outer s H E hr => ⟨_, (pss_cons (ps_expr (pe_cal c_check_kind hr (by decide : (1 : Nat) ≤ 4) rfl (pa_cons (pv 0) pa_nil)))
    (pss_cons (ps_expr (pe_cal c_check_least hr (by decide : (2 : Nat) ≤ 4) rfl (pa_cons (pv 0) (pa_cons (pv 1) pa_nil))))
    (pss_cons (ps_if (pt_cmpR (k_eqD K rfl hr.units) (pv 2) (pe_lst pa_nil) (nomark _)) (pss_cons (ps_ret (pe_lst pa_nil))
    pss_nil) pss_nil)
    (pss_cons (ps_set (i := 5) sc_beginning.nd rfl (Or.inr rfl) (pe_cal c_least_need hr (by decide : (4 : Nat) ≤ 4) rfl (pa_cons (pv 0) (pa_cons (pv 1) (pa_cons (pe_cal c_weight hr (by decide : (1 : Nat) ≤ 4) rfl (pa_cons (pv 2) (pa_cons (pv 3) pa_nil))) pa_nil)))))
    (pss_cons (ps_set (i := 6) sc_beginning.nd rfl (Or.inr rfl) (pe_cal c_in_order hr (by decide : (1 : Nat) ≤ 4) rfl (pa_cons (pv 2) (pa_cons (pv 4) pa_nil))))
    (pss_cons (ps_ret (pe_lc (own := [("k", 7), ("word", 8)]) (g := (gTup K 2 (gCons (gName 7) (gCons (gName 8) gNil)))) rfl sc_beginning.nd (pi_enum (by rfl) T.enumerate (pa_cons (pv 6) pa_nil)) (blkOk_by (N := ["kind", "least", "words", "weights", "order", "few", "own", "k", "word"]) (sc := defScope s_beginning) (by decide +kernel)) (fun _ _ _ _ _ => (pg_tup rfl (pgs_cons (pg_name (i := 7) sc_beginning.nd rfl (Or.inl rfl)) (pgs_cons (pg_name (i := 8) sc_beginning.nd rfl (Or.inl rfl)) pgs_nil)))) (fun _ _ _ _ _ => pts_one (pt_cmpR op_ge (pe_cal c_weight hr (by decide : (1 : Nat) ≤ 4) rfl (pa_cons (pe_slice (k_slL K rfl) (pv 6) (po_some (pv 7)) po_none) (pa_cons (pv 3) pa_nil))) (pv 5) (nomark _))) (fun _ _ _ _ _ => (pv 8))))
    pss_nil)))))), ?_⟩)
  rintro ⟨k, ⟨t, b⟩, s, W, ord⟩ ⟨h1, h2, h3, h4⟩
  dsimp only at h1 h2 h3 h4 ⊢
  have hl : (ordF s ord).length ≤ 20 := (ordF_ok h4).l
  refine go_drop (ev_call (ea_cons (ev_var rfl) ea_nil) ⟨k, trivial, rfl, rfl⟩) ?_
  refine go_drop (ev_call (ea_cons (ev_var rfl) (ea_cons (ev_var rfl) ea_nil)) ⟨(k, t, b), h1, rfl, rfl⟩) ?_
  refine go_if (et_test (ev_op (ev_var rfl) ((en_lst ea_nil)).ev (rv_eqD (dd_ls s) dd_nil (shp_ls h2.w) shp_nil (eqv_lnil s)))) (fun hb => ?_) (fun hb => ?_)
  · refine go_ret (((en_lst ea_nil)).ev.is ?_)
    have e : s = [] := List.isEmpty_iff.mp hb
    rw [bgn, if_pos e]
    rfl
  · have e : s ≠ [] := fun z => by rw [z] at hb; cases hb
    refine go_nextz ?_
    refine go_asg (ev_call (ea_cons (ev_var rfl) (ea_cons (ev_var rfl) (ea_cons (ev_call (ea_cons (ev_var rfl) (ea_cons (ev_var rfl) ea_nil)) ⟨(s, W), (by have := h2.l; show s.length ≤ _; omega), rfl, rfl⟩) ea_nil))) ⟨(k, (t, b), wt s W), ⟨h1, wt_wg h3 h2.l, wt_pos h3 e⟩, rfl, rfl⟩) ?_
    refine go_asg (ev_call (ea_cons (ev_var rfl) (ea_cons (ev_var rfl) ea_nil)) ⟨(s, ord), (by have := h4.l; show ord.length ≤ _; omega), rfl, rfl⟩) ?_
    refine go_ret (((en_lc _ _ _ _ (fun i => decide (leastNeed k t b (wt s W) ≤ wt ((ordF s ord).drop i) W)) (fun i => dS (gt (ordF s ord) i)) (wi_enumR (ea_cons (ev_var rfl) ea_nil)) (fun _ => tg_tup2) (fun i hx => (et_test (ev_op (ev_call (ea_cons ((en_slL (ev_var rfl) (eo_some (ev_var rfl)) eo_none).ev.is (by rw [cut_from (by omega)]; exact congrArg dL (List.map_drop ..).symm)) (ea_cons (ev_var rfl) ea_nil)) ⟨((ordF s ord).drop i, W), (by show ((ordF s ord).drop i).length ≤ 1000; rw [List.length_drop]; omega), rfl, rfl⟩) (ev_var rfl) rv_ge))) (fun x hx hf => (ev_var rfl)) (by rw [List.length_range]; show (ordF s ord).length ≤ _; omega) (by decide))).ev.is ?_)
    rw [bgn, if_neg e]
    show dL _ = dL ((List.map _ _).map dS)
    rw [List.map_map]
    rfl
def f_check_order := Fs (fun x : List (List Str) × List Str => OkOrd x.1 x.2 ∧ OkLot x.1) (fun x => [dLot x.1, dLS x.2]) (fun _ => dN)
theorem sc_check_order : FnScope ["lot", "order", "words", "word"] ["lot", "order"] (defScope s_check_order) := ⟨rfl, rfl, rfl, by decide +kernel, rfl, by decide +kernel, by decide +kernel⟩
theorem bd_check_order : BindOk "check_order" s_check_order ["lot", "order"] := fun _ _ _ _ _ _ us hl => match us, hl with | [_, _], _ => rfl
theorem ok_check_order (T : Txt K mg kA signsZ kindsL) (F : DefF K mg "check_order" s_check_order) (c_is_word : Cal P w K mg base 1 "is_word" (spF f_is_word)) : Cal P w K mg base 2 "check_order" (spF f_check_order) := by
  refine cal_fsE F sc_check_order bd_check_order (fun z => by first | rfl | (cases z <;> rfl)) (fun f cdv A outer s H E hr => ⟨_, (pss_cons (ps_if (PW.pt (pw_or (pt_cmpR op_lt (pe_lenSetS (by rfl) T.len (by rfl) T.set (pv 1)) (pe_callB (k_len K rfl) (by rfl) T.len PySem.boot_len (pa_cons (pv 1) pa_nil)) (nomark _)) (pw_or1 (pt_not (pt_val (pe_callB (k_all K rfl rfl) (by rfl) T.all (by decide +kernel) (pa_cons (pe_lc (own := [("word", 3)]) (g := (gName 3)) (tt := tYes) rfl sc_check_order.nd (pi_list (pv 1)) (blkOk_by (N := ["lot", "order", "words", "word"]) (sc := defScope s_check_order) (by decide +kernel)) (fun _ _ _ _ _ => (pg_name (i := 3) sc_check_order.nd rfl (Or.inl rfl))) (fun _ _ _ _ _ => pts_nil) (fun _ _ _ _ _ => (pe_cal c_is_word hr (by decide : (1 : Nat) ≤ 1) rfl (pa_cons (pv 3) pa_nil)))) pa_nil))))))) (pss_cons ps_never
    pss_nil) pss_nil)
    (pss_cons (ps_for PassesOwn.never rfl (pi_list (pv 0)) (pg_name (i := 2) sc_check_order.nd rfl (Or.inl rfl)) (pss_cons (ps_if (pt_not (pt_val (pe_callB (k_all K rfl rfl) (by rfl) T.all (by decide +kernel) (pa_cons (pe_lc (own := [("word", 3)]) (g := (gName 3)) (tt := tYes) rfl sc_check_order.nd (pi_list (pv 2)) (blkOk_by (N := ["lot", "order", "words", "word"]) (sc := defScope s_check_order) (by decide +kernel)) (fun _ _ _ _ _ => (pg_name (i := 3) sc_check_order.nd rfl (Or.inl rfl))) (fun _ _ _ _ _ => pts_nil) (fun _ _ _ _ _ => (pe_cmpR (k_in K rfl) (pv 3) (pv 1) (by rfl)))) pa_nil)))) (pss_cons ps_never
    pss_nil) pss_nil)
    pss_nil))
    pss_nil)), ?_⟩)
  rintro ⟨l, ord⟩ ⟨h, hl⟩
  dsimp only at h hl ⊢
  refine go_if (et_or (et_test (ev_op (ev_lenSetS (ev_var rfl) h.s.nd (by have := h.s.l; omega)) (ev_cb (ea_cons (ev_var rfl) ea_nil) rc_len) rv_lt)) (fun _ => (et_not (et_B (ev_cb (ea_cons (((en_lc0 _ _ _ _ (fun _ => dB true) (wi_list (ev_var rfl)) (fun _ => tg_name) (fun x hx => (ev_call (ea_cons (ev_var rfl) ea_nil) ⟨x, h.s.w x hx, rfl, rfl⟩)) (by have := h.s.l; omega) (by decide)).is (List.map_map (g := dB) (f := fun _ => true)).symm).ev) ea_nil) rc_all))))) (fun hb => ?_) (fun hb => ?_)
  · exfalso
    rw [all_true (fun _ _ => rfl), List.length_map] at hb
    simp at hb
  · refine go_nextz ?_
    refine go_for _ _ _ _ (fun pre => [some (dLot l), some (dLS ord), none, none]) (fun pre => none) (wi_list (ev_var rfl)) (fun _ => tg_name) (by walk_at "mu le") rfl (fun pre s post e => ?_) go_end ok_n
    have hs := (pre_len e).2
    refine go_if (et_not (et_B (ev_cb (ea_cons (((en_lc0 _ _ _ _ (fun x => dB (decide (x ∈ ord))) (wi_list (ev_var rfl)) (fun _ => tg_name) (fun x hx => (ev_op (ev_var rfl) (ev_var rfl) rv_in)) (by have := (hl.s s hs).l; omega) (by decide)).is (List.map_map (g := dB) (f := fun x => decide (x ∈ ord))).symm).ev) ea_nil) rc_all))) (fun hb => ?_) (fun hb => ?_)
    · exfalso
      rw [all_true (fun x hx => decide_eq_true (h.c s hs x hx))] at hb
      simp at hb
    · exact go_nextz (go_next (by walk_at "mu le"))
def f_begins_alike := Fs (fun x : List Str × List Str => x.1.length ≤ 1000) (fun x => [dLS x.1, dLS x.2]) (fun x => dB (alike x.1 x.2))
theorem sc_begins_alike : FnScope ["first", "second", "word"] ["first", "second"] (defScope s_begins_alike) := ⟨rfl, rfl, rfl, by decide +kernel, rfl, by decide +kernel, by decide +kernel⟩
theorem bd_begins_alike : BindOk "begins_alike" s_begins_alike ["first", "second"] := fun _ _ _ _ _ _ us hl => match us, hl with | [_, _], _ => rfl
theorem ok_begins_alike (T : Txt K mg kA signsZ kindsL) (F : DefF K mg "begins_alike" s_begins_alike) : Cal P w K mg base 1 "begins_alike" (spF f_begins_alike) := by
  refine cal_fs F sc_begins_alike bd_begins_alike (fun z => by first | rfl | (cases z <;> rfl)) (fun f cdv A outer s H E hr => ⟨_, (pss_cons (ps_ret (pe_callB (k_any K rfl rfl) (by rfl) T.any (by decide +kernel) (pa_cons (pe_lc (own := [("word", 2)]) (g := (gName 2)) (tt := tYes) rfl sc_begins_alike.nd (pi_list (pv 0)) (blkOk_by (N := ["first", "second", "word"]) (sc := defScope s_begins_alike) (by decide +kernel)) (fun _ _ _ _ _ => (pg_name (i := 2) sc_begins_alike.nd rfl (Or.inl rfl))) (fun _ _ _ _ _ => pts_nil) (fun _ _ _ _ _ => (pe_cmpR (k_in K rfl) (pv 2) (pv 1) (by rfl)))) pa_nil)))
    pss_nil), ?_⟩)
  rintro ⟨s, o⟩ h
  dsimp only at h ⊢
  refine go_ret ((ev_cb (ea_cons (((en_lc0 _ _ _ _ (fun x => dB (decide (x ∈ o))) (wi_list (ev_var rfl)) (fun _ => tg_name) (fun x hx => (ev_op (ev_var rfl) (ev_var rfl) rv_in)) (by omega) (by decide)).is (List.map_map (g := dB) (f := fun x => decide (x ∈ o))).symm).ev) ea_nil) rc_any).is ?_)
  rw [List.any_map]
  rfl
def f_check_parts := Fs (fun x : List (List Str) × List (List Str) => OkPs x.1 x.2 ∧ OkLot x.1) (fun x => [dLot x.1, dLot x.2]) (fun _ => dN)
def metD (xs : List Str) : List (Str × V) := xs.map fun x => (x, V.bl true)
theorem met_look (xs : List Str) (x : Str) : ((metD xs).lookup x).isSome = decide (x ∈ xs) := by
  induction xs with
  | nil => rfl
  | cons y xs ih =>
    unfold metD at ih ⊢
    rw [List.map_cons, List.lookup_cons]
    by_cases e : x = y
    · subst e; simp
    · have h2 : (x == y) = false := by simpa [beq_eq_false_iff_ne] using e
      rw [h2]
      show _ = _
      rw [ih]
      simp [e]
theorem shp_lot {l : List (List Str)} (h : ∀ s ∈ l, ∀ x ∈ s, OkWord x) : Shp 2 (.list (l.map pS)) := shp_lst fun d hd => by
  obtain ⟨s, hs, rfl⟩ := List.mem_map.mp hd
  exact shp_ls (h s hs)
theorem nd_split {α : Type} {a b : List α} {x : α} (h : (a ++ x :: b).Nodup) : x ∉ a := fun hx => by
  rw [List.nodup_append] at h
  exact h.2.2 x hx x List.mem_cons_self rfl
theorem sc_check_parts : FnScope ["lot", "parts", "met", "part", "word", "words"] ["lot", "parts"] (defScope s_check_parts) := ⟨rfl, rfl, rfl, by decide +kernel, rfl, by decide +kernel, by decide +kernel⟩
theorem bd_check_parts : BindOk "check_parts" s_check_parts ["lot", "parts"] := fun _ _ _ _ _ _ us hl => match us, hl with | [_, _], _ => rfl
theorem ok_check_parts (T : Txt K mg kA signsZ kindsL) (F : DefF K mg "check_parts" s_check_parts) (c_is_word : Cal P w K mg base 1 "is_word" (spF f_is_word)) : Cal P w K mg base 2 "check_parts" (spF f_check_parts) := by
  refine cal_fsE F sc_check_parts bd_check_parts (fun z => by first | rfl | (cases z <;> rfl)) (fun f cdv A outer s H E hr => ⟨_, (pss_cons (ps_if (pt_cmpR (k_eqD K rfl hr.units) (pv 1) (pe_lst pa_nil) (nomark _)) (pss_cons ps_never
    pss_nil) pss_nil)
    (pss_cons (ps_set (i := 2) sc_check_parts.nd rfl (Or.inr rfl) pe_dnewK)
    (pss_cons (ps_for PassesOwn.never rfl (pi_list (pv 1)) (pg_name (i := 3) sc_check_parts.nd rfl (Or.inl rfl)) (pss_cons (ps_for PassesOwn.never rfl (pi_list (pv 3)) (pg_name (i := 4) sc_check_parts.nd rfl (Or.inl rfl)) (pss_cons (ps_if (PW.pt (pw_or (pt_cmp (pc_din (hu_of hr) (pv 4) (pv 2)) rfl) (pw_or1 (pt_not (pt_val (pe_cal c_is_word hr (by decide : (1 : Nat) ≤ 1) rfl (pa_cons (pv 4) pa_nil))))))) (pss_cons ps_never
    pss_nil) pss_nil)
    (pss_cons (ps_dput (hu_of hr) (pv 2) (pv 4) pe_bl rfl)
    pss_nil)))
    pss_nil))
    (pss_cons (ps_for PassesOwn.never rfl (pi_list (pv 0)) (pg_name (i := 5) sc_check_parts.nd rfl (Or.inl rfl)) (pss_cons (ps_if (pt_not (pt_val (pe_callB (k_all K rfl rfl) (by rfl) T.all (by decide +kernel) (pa_cons (pe_lc (own := [("word", 4)]) (g := (gName 4)) (tt := tYes) rfl sc_check_parts.nd (pi_list (pv 5)) (blkOk_by (N := ["lot", "parts", "met", "part", "word", "words"]) (sc := defScope s_check_parts) (by decide +kernel)) (fun _ _ _ _ _ => (pg_name (i := 4) sc_check_parts.nd rfl (Or.inl rfl))) (fun _ _ _ _ _ => pts_nil) (fun _ _ _ _ _ => (pe_cmp (pc_din (hu_of hr) (pv 4) (pv 2)) rfl))) pa_nil)))) (pss_cons ps_never
    pss_nil) pss_nil)
    pss_nil))
    pss_nil)))), ?_⟩)
  rintro ⟨l, ps⟩ ⟨h, hl⟩
  dsimp only at h hl ⊢
  refine go_if (et_test (ev_op (ev_var rfl) ((en_lst ea_nil)).ev (rv_eqD (dd_lst (δ := dLS) (f := pS) fun _ _ => dd_ls _) dd_nil (shp_lot fun s hs => (h.part hs).w) shp_nil (eqv_lnil ps)))) (fun hb => ?_) (fun hb => ?_)
  · exact absurd (List.isEmpty_iff.mp hb) h.ne
  refine go_nextz ?_
  refine go_asgD ?_
  refine go_for _ _ _ _ (fun pre => [some (dLot l), some (dLot ps), none, none, none, none]) (fun pre => some (oD 2 (metD pre.flatten))) (wi_list (ev_var rfl)) (fun _ => tg_name) (by walk_at "mu le") rfl (fun pre part post e => ?_) ?_ (fun _ _ e => by cases e; exact of_decide_eq_true rfl)
  · refine go_for _ _ _ _ (fun pre2 => [some (dLot l), some (dLot ps), none, none, none, none]) (fun pre2 => some (oD 2 (metD (pre.flatten ++ pre2)))) (wi_list (ev_var rfl)) (fun _ => tg_name) (by walk_at "mu le") (by rw [List.append_nil]) (fun pre2 x post2 e2 => ?_) ?_ (fun _ _ e => by cases e; exact of_decide_eq_true rfl)
    · have ef : ps.flatten = (pre.flatten ++ pre2) ++ x :: (post2 ++ post.flatten) := by
        rw [e, List.flatten_append, List.flatten_cons, e2]
        simp
      have hx : x ∉ pre.flatten ++ pre2 := nd_split (ef ▸ h.s.nd)
      have hw : OkWord x := h.s.w x (by rw [ef]; exact List.mem_append_right _ List.mem_cons_self)
      have hn : (pre.flatten ++ pre2).length ≤ 20 := by
        have := h.s.l
        rw [ef, List.length_append] at this
        omega
      have lk : ((metD (pre.flatten ++ pre2)).lookup x).isSome = false := by rw [met_look]; exact decide_eq_false hx
      refine go_ifFD (et_or (et_B (ev_din (ev_var rfl) (ev_var rfl))) (fun _ => (et_not (et_B (ev_call (ea_cons (ev_var rfl) ea_nil) ⟨x, hw, rfl, rfl⟩))))) (fun hb => ?_) (fun hb => ?_)
      · exfalso
        rw [lk] at hb
        simp at hb
      · refine go_nextz ?_
        refine go_dput (w := .bl true) (ev_var rfl) ev_bl (by unfold metD; rw [List.length_map]; omega) (by simpa using lk) ?_
        refine go_nextO (by walk_at "mu le") ?_
        show some (oD 2 (metD _ ++ [_])) = some (oD 2 (metD _))
        rw [← List.append_assoc]
        congr 2
        unfold metD
        rw [List.map_append (l₁ := pre.flatten ++ pre2)]
        rfl
    · refine go_nextO (by walk_at "mu le") ?_
      rw [List.flatten_append, List.flatten_cons, List.flatten_nil, List.append_nil]
  · refine go_tellD ?_
    refine go_for _ _ _ _ (fun pre => [some (dLot l), some (dLot ps), some (dD (metD ps.flatten)), none, none, none]) (fun pre => none) (wi_list (ev_var rfl)) (fun _ => tg_name) (by walk_at "mu le") rfl (fun pre s post e => ?_) go_end ok_n
    have hs := (pre_len e).2
    refine go_if (et_not (et_B (ev_cb (ea_cons (((en_lc0 _ _ _ _ (fun x => dB (((metD ps.flatten).lookup x).isSome)) (wi_list (ev_var rfl)) (fun _ => tg_name) (fun x hx => (ev_din (ev_var rfl) (ev_var rfl))) (by have := (hl.s s hs).l; omega) (by decide)).is (List.map_map (g := dB) (f := fun x => (((metD ps.flatten).lookup x).isSome))).symm).ev) ea_nil) rc_all))) (fun hb => ?_) (fun hb => ?_)
    · exfalso
      rw [all_true (fun x hx => by rw [met_look]; exact decide_eq_true (h.c s hs x hx))] at hb
      simp at hb
    · exact go_nextz (go_next (by walk_at "mu le"))
def f_agree := Fs (fun x : List Str × List Str × List (List Str) => x.2.2.length ≤ 1000 ∧ ∀ p ∈ x.2.2, p.length ≤ 1000) (fun x => [dLS x.1, dLS x.2.1, dLot x.2.2]) (fun x => dL ((agN x.1 x.2.1 x.2.2).map dI))
theorem sc_agree : FnScope ["one", "other", "parts", "found", "number", "part", "word"] ["one", "other", "parts"] (defScope s_agree) := ⟨rfl, rfl, rfl, by decide +kernel, rfl, by decide +kernel, by decide +kernel⟩
theorem bd_agree : BindOk "agree" s_agree ["one", "other", "parts"] := fun _ _ _ _ _ _ us hl => match us, hl with | [_, _, _], _ => rfl
theorem ok_agree (T : Txt K mg kA signsZ kindsL) (F : DefF K mg "agree" s_agree) : Cal P w K mg base 1 "agree" (spF f_agree) := by
  refine cal_fs F sc_agree bd_agree (fun z => by first | rfl | (cases z <;> rfl)) (fun f cdv A outer s H E hr => ⟨_, (pss_cons (ps_set (i := 3) sc_agree.nd rfl (Or.inl rfl) (pe_lst pa_nil))
    (pss_cons (ps_for PassesOwn.never rfl (pi_enum (by rfl) T.enumerate (pa_cons (pv 2) pa_nil)) (pg_tup rfl (pgs_cons (pg_name (i := 4) sc_agree.nd rfl (Or.inl rfl)) (pgs_cons (pg_name (i := 5) sc_agree.nd rfl (Or.inl rfl)) pgs_nil))) (pss_cons (ps_if (pt_val (pe_callB (k_all K rfl rfl) (by rfl) T.all (by decide +kernel) (pa_cons (pe_lc (own := [("word", 6)]) (g := (gName 6)) (tt := tYes) rfl sc_agree.nd (pi_list (pv 5)) (blkOk_by (N := ["one", "other", "parts", "found", "number", "part", "word"]) (sc := defScope s_agree) (by decide +kernel)) (fun _ _ _ _ _ => (pg_name (i := 6) sc_agree.nd rfl (Or.inl rfl))) (fun _ _ _ _ _ => pts_nil) (fun _ _ _ _ _ => (pe_cmpR op_eq (pe_cmpR (k_in K rfl) (pv 6) (pv 0) (by rfl)) (pe_cmpR (k_in K rfl) (pv 6) (pv 1) (by rfl)) (nomark _)))) pa_nil))) (pss_cons (ps_expr (pe_bm PySem.F.plainAttrs_list PySem.F.slot_list_append PySem.F.type_list_append mt_append (pv 3) (pa_cons (pv 4) pa_nil)))
    pss_nil) pss_nil)
    pss_nil))
    (pss_cons (ps_ret (pv 3))
    pss_nil))), ?_⟩)
  rintro ⟨s, o, ps⟩ ⟨h, h2⟩
  dsimp only at h h2 ⊢
  refine go_asgN (en_lst ea_nil) ?_
  refine go_for _ _ _ _ (fun pre => [some (dLS s), some (dLS o), some (dLot ps), none, none, none, none]) (fun pre => some (oL 3 (((pre.filter fun i => agreeB s o (gt ps i)).map fun i : Nat => (i : Int)).map dI))) (wi_enumR (ea_cons (ev_var rfl) ea_nil)) (fun _ => tg_tup2) (by walk_at "mu le") rfl (fun pre i post e => ?_) ?_ ok_k
  · obtain ⟨e1, e2⟩ := range_len e
    have hp := h2 _ (gt_mem e2)
    refine go_if (b := agreeB s o (gt ps i)) ((et_B (ev_cb (ea_cons (((en_lc0 _ _ _ _ (fun x => dB (decide (decide (x ∈ s) = decide (x ∈ o)))) (wi_list (ev_var rfl)) (fun _ => tg_name) (fun x hx => (ev_op (ev_op (ev_var rfl) (ev_var rfl) rv_in) (ev_op (ev_var rfl) (ev_var rfl) rv_in) rv_eqB)) (by omega) (by decide)).is (List.map_map (g := dB) (f := fun x => decide (decide (x ∈ s) = decide (x ∈ o)))).symm).ev) ea_nil) rc_all)).is (by rw [List.all_map]; rfl)) (fun hb => ?_) (fun hb => ?_)
    · refine go_assoc (go_app (ev_var rfl) ?_ ?_)
      · have := fil_le (P := fun i => agreeB s o (gt ps i)) (G := fun i : Nat => (i : Int)) (pre := pre)
        rw [List.length_map]
        omega
      · refine go_nextz (go_nextz (go_nextO (by walk_at "mu le") ?_))
        rw [fil_snoc (P := fun i => agreeB s o (gt ps i)) hb]
        exact ol_snoc rfl
    · refine go_nextz (go_nextO (by walk_at "mu le") ?_)
      rw [fil_skip (P := fun i => agreeB s o (gt ps i)) hb]
  · refine go_tell ?_
    exact go_ret (ev_var rfl)
def f_room := Fs (fun x : Kd × (Int × Int) × Int × Int => Lst x.2.1.1 x.2.1.2 ∧ Wg x.2.2.1 ∧ Wg x.2.2.2) (fun x => [dK x.1, d2 x.2.1, dI x.2.2.1, dI x.2.2.2]) (fun x => dI (roomN x.1 x.2.1.1 x.2.1.2 x.2.2.1 x.2.2.2))
theorem sc_room : FnScope ["kind", "least", "a", "b"] ["kind", "least", "a", "b"] (defScope s_room) := ⟨rfl, rfl, rfl, by decide +kernel, rfl, by decide +kernel, by decide +kernel⟩
theorem bd_room : BindOk "room" s_room ["kind", "least", "a", "b"] := fun _ _ _ _ _ _ us hl => match us, hl with | [_, _, _, _], _ => rfl
theorem ok_room (T : Txt K mg kA signsZ kindsL) (F : DefF K mg "room" s_room) (c_need : Cal P w K mg base 3 "need" (spF f_need)) : Cal P w K mg base 4 "room" (spF f_room) := by
  refine cal_fs F sc_room bd_room (fun z => by first | rfl | (cases z <;> rfl)) (fun f cdv A outer s H E hr => ⟨_, (pss_cons (ps_ret (pe_op op_sub (pe_op op_add (pv 2) (pv 3)) (pe_op op_mulW pe_int (pe_cal c_need hr (by decide : (3 : Nat) ≤ 3) rfl (pa_cons (pv 0) (pa_cons (pv 1) (pa_cons (pv 2) (pa_cons (pv 3) pa_nil))))))))
    pss_nil), ?_⟩)
  rintro ⟨k, ⟨t, b⟩, a, c⟩ ⟨h1, h2, h3⟩
  dsimp only at h1 h2 h3 ⊢
  exact go_ret (ev_op (ev_op (ev_var rfl) (ev_var rfl) rv_add) (ev_op ev_int (ev_call (ea_cons (ev_var rfl) (ea_cons (ev_var rfl) (ea_cons (ev_var rfl) (ea_cons (ev_var rfl) ea_nil)))) ⟨(k, (t, b), a, c), ⟨h1, h2, h3⟩, rfl, rfl⟩) (rv_mul (Bt.cm (m := 1) ⟨by decide, by decide⟩ (need_bt h1 h2 h3)))) rv_sub)
def f_must_agree := Fs (fun x : Kd × (Int × Int) × Int × Int × Int => Lst x.2.1.1 x.2.1.2 ∧ Wg x.2.2.1 ∧ Wg x.2.2.2.1) (fun x => [dK x.1, d2 x.2.1, dI x.2.2.1, dI x.2.2.2.1, dI x.2.2.2.2]) (fun x => dI (max 0 (x.2.2.2.2 - roomN x.1 x.2.1.1 x.2.1.2 x.2.2.1 x.2.2.2.1)))
theorem sc_must_agree : FnScope ["kind", "least", "a", "b", "many"] ["kind", "least", "a", "b", "many"] (defScope s_must_agree) := ⟨rfl, rfl, rfl, by decide +kernel, rfl, by decide +kernel, by decide +kernel⟩
theorem bd_must_agree : BindOk "must_agree" s_must_agree ["kind", "least", "a", "b", "many"] := fun _ _ _ _ _ _ us hl => match us, hl with | [_, _, _, _, _], _ => rfl
theorem ok_must_agree (T : Txt K mg kA signsZ kindsL) (F : DefF K mg "must_agree" s_must_agree) (c_room : Cal P w K mg base 4 "room" (spF f_room)) : Cal P w K mg base 5 "must_agree" (spF f_must_agree) := by
  refine cal_fs F sc_must_agree bd_must_agree (fun z => by first | rfl | (cases z <;> rfl)) (fun f cdv A outer s H E hr => ⟨_, (pss_cons (ps_ret (pe_callB (call_max2 rfl) (by rfl) T.max (by decide +kernel) (pa_cons pe_int (pa_cons (pe_op op_sub (pv 4) (pe_cal c_room hr (by decide : (4 : Nat) ≤ 4) rfl (pa_cons (pv 0) (pa_cons (pv 1) (pa_cons (pv 2) (pa_cons (pv 3) pa_nil)))))) pa_nil))))
    pss_nil), ?_⟩)
  rintro ⟨k, ⟨t, b⟩, a, c, m⟩ ⟨h1, h2, h3⟩
  dsimp only at h1 h2 h3 ⊢
  exact go_ret (ev_cb (ea_cons ev_int (ea_cons (ev_op (ev_var rfl) (ev_call (ea_cons (ev_var rfl) (ea_cons (ev_var rfl) (ea_cons (ev_var rfl) (ea_cons (ev_var rfl) ea_nil)))) ⟨(k, (t, b), a, c), ⟨h1, h2, h3⟩, rfl, rfl⟩) rv_sub) ea_nil)) rc_max)
def f_check_asked := Fs (fun x : Kd × (Int × Int) × List (List Str) × Wt => Lst x.2.1.1 x.2.1.2 ∧ OkLot x.2.2.1 ∧ OkW x.2.2.2 ∧ (x.2.2.2.map Prod.fst).Nodup) (fun x => [dK x.1, d2 x.2.1, dLot x.2.2.1, dWt x.2.2.2]) (fun _ => dN)
theorem sc_check_asked : FnScope ["kind", "least", "lot", "weights"] ["kind", "least", "lot", "weights"] (defScope s_check_asked) := ⟨rfl, rfl, rfl, by decide +kernel, rfl, by decide +kernel, by decide +kernel⟩
theorem bd_check_asked : BindOk "check_asked" s_check_asked ["kind", "least", "lot", "weights"] := fun _ _ _ _ _ _ us hl => match us, hl with | [_, _, _, _], _ => rfl
theorem ok_check_asked (T : Txt K mg kA signsZ kindsL) (F : DefF K mg "check_asked" s_check_asked) (c_check_kind : Cal P w K mg base 1 "check_kind" (spF f_check_kind)) (c_check_least : Cal P w K mg base 2 "check_least" (spF f_check_least)) (c_check_lot : Cal P w K mg base 3 "check_lot" (spF f_check_lot)) : Cal P w K mg base 4 "check_asked" (spF f_check_asked) := by
  refine cal_fsE F sc_check_asked bd_check_asked (fun z => by first | rfl | (cases z <;> rfl)) (fun f cdv A outer s H E hr => ⟨_, (pss_cons (ps_expr (pe_cal c_check_kind hr (by decide : (1 : Nat) ≤ 3) rfl (pa_cons (pv 0) pa_nil)))
    (pss_cons (ps_expr (pe_cal c_check_least hr (by decide : (2 : Nat) ≤ 3) rfl (pa_cons (pv 0) (pa_cons (pv 1) pa_nil))))
    (pss_cons (ps_expr (pe_cal c_check_lot hr (by decide : (3 : Nat) ≤ 3) rfl (pa_cons (pv 2) (pa_cons (pv 3) pa_nil))))
    pss_nil))), ?_⟩)
  rintro ⟨k, ⟨t, b⟩, l, W⟩ ⟨h1, h2, h3, h4⟩
  dsimp only at h1 h2 h3 h4 ⊢
  refine go_drop (ev_call (ea_cons (ev_var rfl) ea_nil) ⟨k, trivial, rfl, rfl⟩) ?_
  refine go_drop (ev_call (ea_cons (ev_var rfl) (ea_cons (ev_var rfl) ea_nil)) ⟨(k, t, b), h1, rfl, rfl⟩) ?_
  refine go_drop (ev_call (ea_cons (ev_var rfl) (ea_cons (ev_var rfl) ea_nil)) ⟨(l, W), ⟨h2, h3, h4⟩, rfl, rfl⟩) ?_
  exact go_end
def f_parts_hold := Fs (fun x : Kd × (Int × Int) × List Str × List Str × Wt × List (List Str) => Lst x.2.1.1 x.2.1.2 ∧ OkS x.2.2.1 ∧ OkS x.2.2.2.1 ∧ OkW x.2.2.2.2.1 ∧ x.2.2.2.2.2.length ≤ 1000 ∧ ∀ p ∈ x.2.2.2.2.2, p.length ≤ 1000) (fun x => [dK x.1, d2 x.2.1, dLS x.2.2.1, dLS x.2.2.2.1, dWt x.2.2.2.2.1, dLot x.2.2.2.2.2]) (fun x => dB (partsHold x.1 x.2.1.1 x.2.1.2 x.2.2.1 x.2.2.2.1 x.2.2.2.2.1 x.2.2.2.2.2))
theorem sc_parts_hold : FnScope ["kind", "least", "one", "other", "weights", "parts", "a", "b"] ["kind", "least", "one", "other", "weights", "parts"] (defScope s_parts_hold) := ⟨rfl, rfl, rfl, by decide +kernel, rfl, by decide +kernel, by decide +kernel⟩
theorem bd_parts_hold : BindOk "parts_hold" s_parts_hold ["kind", "least", "one", "other", "weights", "parts"] := fun _ _ _ _ _ _ us hl => match us, hl with | [_, _, _, _, _, _], _ => rfl
theorem ok_parts_hold (T : Txt K mg kA signsZ kindsL) (F : DefF K mg "parts_hold" s_parts_hold) (c_weight : Cal P w K mg base 1 "weight" (spF f_weight)) (c_agree : Cal P w K mg base 1 "agree" (spF f_agree)) (c_must_agree : Cal P w K mg base 5 "must_agree" (spF f_must_agree)) : Cal P w K mg base 6 "parts_hold" (spF f_parts_hold) := by
  refine cal_fs F sc_parts_hold bd_parts_hold (fun z => by first | rfl | (cases z <;> rfl)) (fun f cdv A outer s H E hr => ⟨_, (pss_cons (ps_set (i := 6) sc_parts_hold.nd rfl (Or.inl rfl) (pe_cal c_weight hr (by decide : (1 : Nat) ≤ 5) rfl (pa_cons (pv 2) (pa_cons (pv 4) pa_nil))))
    (pss_cons (ps_set (i := 7) sc_parts_hold.nd rfl (Or.inl rfl) (pe_cal c_weight hr (by decide : (1 : Nat) ≤ 5) rfl (pa_cons (pv 3) (pa_cons (pv 4) pa_nil))))
    (pss_cons (ps_ret (pe_cmpR op_ge (pe_callB (k_len K rfl) (by rfl) T.len PySem.boot_len (pa_cons (pe_cal c_agree hr (by decide : (1 : Nat) ≤ 5) rfl (pa_cons (pv 2) (pa_cons (pv 3) (pa_cons (pv 5) pa_nil)))) pa_nil)) (pe_cal c_must_agree hr (by decide : (5 : Nat) ≤ 5) rfl (pa_cons (pv 0) (pa_cons (pv 1) (pa_cons (pv 6) (pa_cons (pv 7) (pa_cons (pe_callB (k_len K rfl) (by rfl) T.len PySem.boot_len (pa_cons (pv 5) pa_nil)) pa_nil)))))) (nomark _)))
    pss_nil))), ?_⟩)
  rintro ⟨k, ⟨t, b⟩, s, o, W, ps⟩ ⟨h1, h2, h3, h4, h5, h6⟩
  dsimp only at h1 h2 h3 h4 h5 h6 ⊢
  refine go_asg (ev_call (ea_cons (ev_var rfl) (ea_cons (ev_var rfl) ea_nil)) ⟨(s, W), (by have := h2.l; show s.length ≤ _; omega), rfl, rfl⟩) ?_
  refine go_asg (ev_call (ea_cons (ev_var rfl) (ea_cons (ev_var rfl) ea_nil)) ⟨(o, W), (by have := h3.l; show o.length ≤ _; omega), rfl, rfl⟩) ?_
  refine go_ret ((ev_op (ev_cb (ea_cons (ev_call (ea_cons (ev_var rfl) (ea_cons (ev_var rfl) (ea_cons (ev_var rfl) ea_nil))) ⟨(s, o, ps), ⟨h5, h6⟩, rfl, rfl⟩) ea_nil) rc_len) (ev_call (ea_cons (ev_var rfl) (ea_cons (ev_var rfl) (ea_cons (ev_var rfl) (ea_cons (ev_var rfl) (ea_cons (ev_cb (ea_cons (ev_var rfl) ea_nil) rc_len) ea_nil))))) ⟨(k, (t, b), wt s W, wt o W, ((ps.map dLS).length : Int)), ⟨h1, wt_wg h4 h2.l, wt_wg h4 h3.l⟩, rfl, rfl⟩) rv_ge).is ?_)
  unfold partsHold
  rw [List.length_map, List.length_map]
/-- the way: all, or by parts -/
def wayS : Option (List (List Str)) → Str
  | none => "all"
  | some _ => "parts"
def byD : Option (List (List Str)) → Dn
  | none => dN
  | some ps => dLot ps
noncomputable def keepsB (k : Kd) (t b : Int) (l : List (List Str)) (W : Wt) (by' : Option (List (List Str))) (p : Nat × Nat) : Bool := match by' with
  | none => true
  | some ps => areMates k t b (wt (gt l p.1) W) (wt (gt l p.2) W) && partsHold k t b (gt l p.1) (gt l p.2) W ps
def f_held_pairs := Fs (fun x : Option (List (List Str)) × Kd × (Int × Int) × List (List Str) × Wt => Lst x.2.2.1.1 x.2.2.1.2 ∧ OkLot x.2.2.2.1 ∧ OkW x.2.2.2.2 ∧ ∀ ps, x.1 = some ps → OkPs x.2.2.2.1 ps) (fun x => [dS (wayS x.1), dK x.2.1, d2 x.2.2.1, dLot x.2.2.2.1, dWt x.2.2.2.2, byD x.1])
  (fun x => dEx (fun ys : List (Nat × Nat) => ys.Perm ((JI x.2.2.2.1.length).filter (keepsB x.2.1 x.2.2.1.1 x.2.2.1.2 x.2.2.2.1 x.2.2.2.2 x.1))) fun ys => dL (ys.map dNN))
end
end Mu
/-! Papers. -/
namespace Mu
open PySem PySem.Spec PyProof.Rows L2
local macro_rules | `(tactic| walk_at "mu le") => `(tactic| (repeat (first | exact trivial | refine ⟨by first | exact Or.inr rfl | exact Or.inl rfl, ?_⟩)))
abbrev pRow (r : Int × Int × Int) : PyData := .tuple [.int r.1, .int r.2.1, .int r.2.2]
abbrev pPr (r : Int × Int × (Int × Int)) : PyData := .tuple [.int r.1, .int r.2.1, .tuple [.int r.2.2.1, .int r.2.2.2]]
theorem eqv_row (x y : Int × Int × Int) : PyData.eqv (pRow x) (pRow y) = decide (x = y) := by
  obtain ⟨a, b, c⟩ := x
  obtain ⟨d, e, f⟩ := y
  simp only [PyData.eqv, PyData.eqvAll, Prod.mk.injEq]
  by_cases h1 : a = d <;> by_cases h2 : b = e <;> by_cases h3 : c = f <;> simp [h1, h2, h3]
theorem eqv_pr (x y : Int × Int × (Int × Int)) : PyData.eqv (pPr x) (pPr y) = decide (x = y) := by
  obtain ⟨a, b, c, g⟩ := x
  obtain ⟨d, e, f, h⟩ := y
  simp only [PyData.eqv, PyData.eqvAll, Prod.mk.injEq]
  by_cases h1 : a = d <;> by_cases h2 : b = e <;> by_cases h3 : c = f <;> by_cases h4 : g = h <;> simp [h1, h2, h3, h4]
theorem shp_rows (xs : List (Int × Int × Int)) : Shp 2 (.list (xs.map pRow)) := shp_lst fun d hd => by
  obtain ⟨x, _, rfl⟩ := List.mem_map.mp hd
  refine shp_tup fun d hd => ?_
  rcases List.mem_cons.mp hd with rfl | hd
  · exact shp_int
  rcases List.mem_cons.mp hd with rfl | hd
  · exact shp_int
  rcases List.mem_cons.mp hd with rfl | hd
  · exact shp_int
  · cases hd
theorem shp_prs (xs : List (Int × Int × (Int × Int))) : Shp 3 (.list (xs.map pPr)) := shp_lst fun d hd => by
  obtain ⟨x, _, rfl⟩ := List.mem_map.mp hd
  refine shp_tup fun d hd => ?_
  rcases List.mem_cons.mp hd with rfl | hd
  · exact shp_int.up (by decide)
  rcases List.mem_cons.mp hd with rfl | hd
  · exact shp_int.up (by decide)
  rcases List.mem_cons.mp hd with rfl | hd
  · refine shp_tup fun d hd => ?_
    rcases List.mem_cons.mp hd with rfl | hd
    · exact shp_int
    rcases List.mem_cons.mp hd with rfl | hd
    · exact shp_int
    · cases hd
  · cases hd
theorem dd_rows (xs : List (Int × Int × Int)) : DD (dL (xs.map dRow)) (.list (xs.map pRow)) := dd_lst fun _ _ => dd_tup3 dd_int dd_int dd_int
theorem dd_prs (xs : List (Int × Int × (Int × Int))) : DD (dL (xs.map dPr)) (.list (xs.map pPr)) := dd_lst fun _ _ => dd_tup3 dd_int dd_int (dd_tup2 dd_int dd_int)
def rowOf (l : List (List Str)) (W : Wt) (p : Nat × Nat) : Int × Int × Int := ((p.1 : Int), (p.2 : Int), cw (gt l p.1) (gt l p.2) W)
def prOf (k : Kd) (l : List (List Str)) (W : Wt) (p : Nat × Nat) : Int × Int × (Int × Int) := ((p.1 : Int), (p.2 : Int), shr k (gt l p.1) (gt l p.2) W)
def alikeF (k : Kd) (t b : Int) (l : List (List Str)) (W : Wt) (p : Nat × Nat) : Bool := enough t b (shr k (gt l p.1) (gt l p.2) W)
noncomputable def endsB (k : Kd) (t b : Int) (l : List (List Str)) (W : Wt) (ord : List Str) (es : List Nat) (p : Nat × Nat) : Bool :=
  areMates k t b (wt (gt l p.1) W) (wt (gt l p.2) W) && alike ((ordF (gt l p.1) ord).take (gt es p.1)) ((ordF (gt l p.2) ord).take (gt es p.2))
section
variable {P : Program} {w : World} {K : PySem.W.Frag} {mg : Str → Option Value} {base : Heap} {kA : Addr}
theorem wayS_all {o : Option (List (List Str))} (h : decide (wayS o = "all") = true) : o = none := by
  cases o with
  | none => rfl
  | some _ => exact absurd (show decide (("parts" : Str) = "all") = true from h) (by decide)
theorem wayS_parts {o : Option (List (List Str))} (h : decide (wayS o = "parts") = true) : ∃ ps, o = some ps := by
  cases o with
  | none => exact absurd h (by decide)
  | some ps => exact ⟨ps, rfl⟩
theorem wayS_no {o : Option (List (List Str))} : decide (wayS o = "places") = false ∧ decide (wayS o ∈ (["beginnings", "places"] : List Str)) = false := by
  have e1 : decide (("all" : Str) = "places") = false ∧ decide (("all" : Str) ∈ (["beginnings", "places"] : List Str)) = false := by decide
  have e2 : decide (("parts" : Str) = "places") = false ∧ decide (("parts" : Str) ∈ (["beginnings", "places"] : List Str)) = false := by decide
  cases o
  · exact e1
  · exact e2
theorem sizes_at {l : List (List Str)} {W : Wt} {i : Nat} (h : i < l.length) : atI (l.map fun s => dI (wt s W)) (i : Int) = some (dI (wt (gt l i) W)) := atI_gt (fun s => dI (wt s W)) h
theorem sc_held_pairs : FnScope ["way", "kind", "least", "lot", "weights", "by", "sizes", "begins", "found", "j", "other", "i", "one", "keeps", "words"] ["way", "kind", "least", "lot", "weights", "by"] (defScope s_held_pairs) := ⟨rfl, rfl, rfl, by decide +kernel, rfl, by decide +kernel, by decide +kernel⟩
theorem bd_held_pairs : BindOk "held_pairs" s_held_pairs ["way", "kind", "least", "lot", "weights", "by"] := fun _ _ _ _ _ _ us hl => match us, hl with | [_, _, _, _, _, _], _ => rfl
theorem ok_held_pairs (T : Txt K mg kA signsZ kindsL) (F : DefF K mg "held_pairs" s_held_pairs) (c_are_mates : Cal P w K mg base 4 "are_mates" (spF f_are_mates)) (c_weight : Cal P w K mg base 1 "weight" (spF f_weight)) (c_beginning : Cal P w K mg base 5 "beginning" (spF f_beginning)) (c_parts_hold : Cal P w K mg base 6 "parts_hold" (spF f_parts_hold)) (c_begins_alike : Cal P w K mg base 1 "begins_alike" (spF f_begins_alike)) : Cal P w K mg base 7 "held_pairs" (spF f_held_pairs) := by
  refine cal_fs F sc_held_pairs bd_held_pairs (fun z => by first | rfl | (cases z <;> rfl)) (fun f cdv A outer s H E hr => ⟨_, (pss_cons (ps_setLc (i := 6) (own := [("words", 14)]) (g := (gName 14)) (tt := tYes) rfl sc_held_pairs.nd rfl rfl (sw_true rfl rfl rfl (by decide +kernel)) (pi_list (pv 3)) (blkOk_by (N := ["way", "kind", "least", "lot", "weights", "by", "sizes", "begins", "found", "j", "other", "i", "one", "keeps", "words"]) (sc := defScope s_held_pairs) (by decide +kernel)) (fun _ _ _ _ _ => (pg_name (i := 14) sc_held_pairs.nd rfl (Or.inl rfl))) (fun _ _ _ _ _ => pts_nil) (fun _ _ _ _ _ => (pe_cal c_weight hr (by decide : (1 : Nat) ≤ 6) rfl (pa_cons (pv 14) (pa_cons (pv 4) pa_nil)))))
    (pss_cons (ps_set (i := 7) sc_held_pairs.nd rfl (Or.inl rfl) (pe_lst pa_nil))
    (pss_cons (ps_if (pt_cmpR (k_in K rfl) (pv 0) (pe_tup (pa_cons pe_str (pa_cons pe_str pa_nil))) (by rfl)) (pss_cons (ps_setLc (i := 7) (own := [("words", 14)]) (g := (gName 14)) (tt := tYes) rfl sc_held_pairs.nd rfl rfl (sw_true rfl rfl rfl (by decide +kernel)) (pi_list (pv 3)) (blkOk_by (N := ["way", "kind", "least", "lot", "weights", "by", "sizes", "begins", "found", "j", "other", "i", "one", "keeps", "words"]) (sc := defScope s_held_pairs) (by decide +kernel)) (fun _ _ _ _ _ => (pg_name (i := 14) sc_held_pairs.nd rfl (Or.inl rfl))) (fun _ _ _ _ _ => pts_nil) (fun _ _ _ _ _ => (pe_cal c_beginning hr (by decide : (5 : Nat) ≤ 6) rfl (pa_cons (pv 1) (pa_cons (pv 2) (pa_cons (pv 14) (pa_cons (pv 4) (pa_cons (pv 5) pa_nil))))))))
    pss_nil) pss_nil)
    (pss_cons (ps_set (i := 8) sc_held_pairs.nd rfl (Or.inl rfl) (pe_lst pa_nil))
    (pss_cons (ps_for PassesOwn.never rfl (pi_enum (by rfl) T.enumerate (pa_cons (pv 3) pa_nil)) (pg_tup rfl (pgs_cons (pg_name (i := 9) sc_held_pairs.nd rfl (Or.inl rfl)) (pgs_cons (pg_name (i := 10) sc_held_pairs.nd rfl (Or.inl rfl)) pgs_nil))) (pss_cons (ps_for PassesOwn.never rfl (pi_enum (by rfl) T.enumerate (pa_cons (pe_slice (k_slL K rfl) (pv 3) po_none (po_some (pv 9))) pa_nil)) (pg_tup rfl (pgs_cons (pg_name (i := 11) sc_held_pairs.nd rfl (Or.inl rfl)) (pgs_cons (pg_name (i := 12) sc_held_pairs.nd rfl (Or.inl rfl)) pgs_nil))) (pss_cons (ps_set (i := 13) sc_held_pairs.nd rfl (Or.inl rfl) (pe_or (pe_cmpR op_eq (pv 0) pe_str (nomark _)) (pe_one (pe_cal c_are_mates hr (by decide : (4 : Nat) ≤ 6) rfl (pa_cons (pv 1) (pa_cons (pv 2) (pa_cons (pe_ix (k_ixL K rfl) (pv 6) (pv 11) (fun _ _ => rfl)) (pa_cons (pe_ix (k_ixL K rfl) (pv 6) (pv 9) (fun _ _ => rfl)) pa_nil))))))))
    (pss_cons (ps_if (PW.pt (pw_and (pt_val (pv 13)) (pw_and1 (pt_cmpR (k_neD K rfl hr.units) (pv 7) (pe_lst pa_nil) (nomark _))))) (pss_cons (ps_set (i := 13) sc_held_pairs.nd rfl (Or.inl rfl) (pe_cal c_begins_alike hr (by decide : (1 : Nat) ≤ 6) rfl (pa_cons (pe_ix (k_ixL K rfl) (pv 7) (pv 11) (fun _ _ => rfl)) (pa_cons (pe_ix (k_ixL K rfl) (pv 7) (pv 9) (fun _ _ => rfl)) pa_nil))))
    pss_nil) pss_nil)
    (pss_cons (ps_if (PW.pt (pw_and (pt_val (pv 13)) (pw_and1 (pt_cmpR op_eq (pv 0) pe_str (nomark _))))) pss_never pss_nil)
    (pss_cons (ps_if (PW.pt (pw_and (pt_val (pv 13)) (pw_and1 (pt_cmpR op_eq (pv 0) pe_str (nomark _))))) (pss_cons (ps_set (i := 13) sc_held_pairs.nd rfl (Or.inl rfl) (pe_cal c_parts_hold hr (by decide : (6 : Nat) ≤ 6) rfl (pa_cons (pv 1) (pa_cons (pv 2) (pa_cons (pv 12) (pa_cons (pv 10) (pa_cons (pv 4) (pa_cons (pv 5) pa_nil))))))))
    pss_nil) pss_nil)
    (pss_cons (ps_if (pt_val (pv 13)) (pss_cons (ps_expr (pe_bm PySem.F.plainAttrs_list PySem.F.slot_list_append PySem.F.type_list_append mt_append (pv 8) (pa_cons (pe_tup (pa_cons (pv 11) (pa_cons (pv 9) pa_nil))) pa_nil)))
    pss_nil) pss_nil)
    pss_nil))))))
    pss_nil))
    (pss_cons (ps_ret (pe_callB (cr_sortedD rfl hr.u66) (by rfl) T.sorted (by decide +kernel) (pa_cons (pv 8) pa_nil)))
    pss_nil)))))), ?_⟩)
  rintro ⟨by', k, ⟨t, b⟩, l, W⟩ ⟨h1, h2, h3, h4⟩
  dsimp only at h1 h2 h3 h4 ⊢
  have hn := h2.n
  refine go_asg ((en_lc0 _ _ _ _ (fun s => dI (wt s W)) (wi_list (ev_var rfl)) (fun _ => tg_name) (fun s hs => (ev_call (ea_cons (ev_var rfl) (ea_cons (ev_var rfl) ea_nil)) ⟨(s, W), (by have := (h2.s s hs).l; show s.length ≤ _; omega), rfl, rfl⟩)) (by omega) (by decide))).ev ?_
  refine go_asgN (en_lst ea_nil) ?_
  refine go_tell ?_
  refine go_if (et_test (ev_op (ev_var rfl) (ev_tup (ea_cons ev_str (ea_cons ev_str ea_nil))) (rv_inT (xs := ["beginnings", "places"])))) (fun hb => ?_) (fun hb => ?_)
  · exfalso
    rw [wayS_no.2] at hb
    cases hb
  refine go_nextz ?_
  refine go_asgN (en_lst ea_nil) ?_
  let G : Nat × Nat → Nat × Nat := fun p => p
  let kb := keepsB k t b l W by'
  refine go_for _ _ _ _ (fun pre => [some (dS (wayS by')), some (dK k), some (d2 (t, b)), some (dLot l), some (dWt W), some (byD by'), some (dL (l.map fun s => dI (wt s W))), some (dL []), none, none, none, none, none, none, none]) (fun pre => some (oL 8 ((pre.flatMap fun j => ((List.range j).filter fun i => kb (i, j)).map fun i => (i, j)).map dNN))) (wi_enumR (ea_cons (ev_var rfl) ea_nil)) (fun _ => tg_tup2) (by walk_at "mu le") rfl (fun pre j post e => ?_) ?_ ok_k
  · obtain ⟨e1, e2⟩ := range_len e
    have pl : (pre.flatMap fun j => ((List.range j).filter fun i => kb (i, j)).map fun i => (i, j)).length ≤ 13 * 13 := by
      refine Nat.le_trans (fm_len (n := 13) fun a ha => Nat.le_trans fil_le ?_) (Nat.mul_le_mul_right 13 (by omega))
      have : a ∈ List.range l.length := by rw [e]; exact List.mem_append_left _ ha
      rw [List.mem_range] at this
      rw [List.length_range]; omega
    have tk : (l.take j).length = j := by rw [List.length_take]; omega
    refine go_for (List.range j) (fun i => dT [dI (i : Nat), dLS (gt (l.take j) i)]) _ _ (fun pre2 => [some (dS (wayS by')), some (dK k), some (d2 (t, b)), some (dLot l), some (dWt W), some (byD by'), some (dL (l.map fun s => dI (wt s W))), some (dL []), none, some (dI j), some (dLS (gt l j)), none, none, none, none]) (fun pre2 => some (oL 8 (((pre.flatMap fun j => ((List.range j).filter fun i => kb (i, j)).map fun i => (i, j)) ++ (pre2.filter fun i => kb (i, j)).map fun i => (i, j)).map dNN))) (wi_is (wi_enumR (xs := l.take j) (δ := dLS) (ea_cons ((en_slL (ev_var rfl) eo_none (eo_some (ev_var rfl))).ev.is (by rw [cut_to (by omega)]; exact congrArg dL (List.map_take ..).symm)) ea_nil)) (by rw [tk])) (fun _ => tg_tup2) (by walk_at "mu le") (by rw [List.filter_nil, List.map_nil, List.append_nil]) (fun pre2 i post2 e' => ?_) ?_ ok_k
    · obtain ⟨q1, q2⟩ := range_len e'
      have hi : i < l.length := by omega
      rw [gt_take q2]
      have wi := wt_wg h3 (h2.gt hi).l
      have wj := wt_wg h3 (h2.gt e2).l
      refine go_asg (ev_orV (ev_op (ev_var rfl) ev_str rv_eqS) (fun _ => (ev_call (ea_cons (ev_var rfl) (ea_cons (ev_var rfl) (ea_cons (ev_op (ev_var rfl) (ev_var rfl) (rv_ixL (sizes_at hi))) (ea_cons (ev_op (ev_var rfl) (ev_var rfl) (rv_ixL (sizes_at e2))) ea_nil)))) ⟨(k, (t, b), wt (gt l i) W, wt (gt l j) W), ⟨h1, wi, wj⟩, rfl, rfl⟩))) ?_
      refine go_if (et_and (et_B (ev_var rfl)) (fun _ => (et_test (ev_op (ev_var rfl) ((en_lst ea_nil)).ev (rv_neD dd_nil dd_nil shp_nil shp_nil (show PyData.eqv (.list []) (.list []) = true by simp [PyData.eqv, PyData.eqvAll])))))) (fun hb => ?_) (fun hb => ?_)
      · simp at hb
      refine go_nextz ?_
      refine go_if (et_and (et_B (ev_var rfl)) (fun _ => (et_test (ev_op (ev_var rfl) ev_str rv_eqS)))) (fun hb => ?_) (fun hb => ?_)
      · rw [wayS_no.1] at hb
        simp at hb
      refine go_nextz ?_
      refine go_ifJ0 [some (dS (wayS by')), some (dK k), some (d2 (t, b)), some (dLot l), some (dWt W), some (byD by'), some (dL (l.map fun s => dI (wt s W))), some (dL []), none, some (dI j), some (dLS (gt l j)), some (dI i), some (dLS (gt l i)), some (dB (kb (i, j))), none] (et_and (et_B (ev_var rfl)) (fun _ => (et_test (ev_op (ev_var rfl) ev_str rv_eqS)))) (fun hb => ?_) (fun hb => ?_) ?_
      · rw [Bool.and_eq_true] at hb
        obtain ⟨ps, rfl⟩ := wayS_parts hb.2
        have am : areMates k t b (wt (gt l i) W) (wt (gt l j) W) = true := by
          have := hb.1
          rw [Bool.or_eq_true] at this
          rcases this with z | z
          · exact absurd (wayS_all z) (by simp)
          · exact z
        have hp := h4 ps rfl
        refine go_asg (ev_call (ea_cons (ev_var rfl) (ea_cons (ev_var rfl) (ea_cons (ev_var rfl) (ea_cons (ev_var rfl) (ea_cons (ev_var rfl) (ea_cons (ev_var rfl) ea_nil)))))) ⟨(k, (t, b), gt l i, gt l j, W, ps), ⟨h1, h2.gt hi, h2.gt e2, h3, by have := hp.n; show ps.length ≤ _; omega, fun q hq => by have := (hp.part hq).l; omega⟩, rfl, rfl⟩) ?_
        have ek : kb (i, j) = partsHold k t b (gt l i) (gt l j) W ps := by
          show (areMates k t b (wt (gt l i) W) (wt (gt l j) W) && _) = _
          rw [am, Bool.true_and]
        rw [ek]
        exact go_nextO (by walk_at "mu le") rfl
      · have ek : kb (i, j) = (decide (wayS by' = "all") || areMates k t b (wt (gt l i) W) (wt (gt l j) W)) := by
          cases by' with
          | none => rfl
          | some ps =>
            have hz : decide (wayS (some ps) = "parts") = true := show decide (("parts" : Str) = "parts") = true by decide
            have hy : decide (wayS (some ps) = "all") = false := show decide (("parts" : Str) = "all") = false by decide
            rw [hz, Bool.and_true, hy, Bool.false_or] at hb
            have hb : areMates k t b (wt (gt l i) W) (wt (gt l j) W) = false := hb
            show (areMates k t b (wt (gt l i) W) (wt (gt l j) W) && _) = _
            rw [hy, hb]
            rfl
        rw [ek]
        exact go_nextO (by walk_at "mu le") rfl
      · refine go_if (et_B (ev_var rfl)) (fun hb => ?_) (fun hb => ?_)
        · refine go_assoc (go_app (ev_tup (ea_cons (ev_var rfl) (ea_cons (ev_var rfl) ea_nil))) ?_ ?_)
          · have := fil_le (P := fun i => kb (i, j)) (G := fun i => (i, j)) (pre := pre2)
            rw [List.length_map, List.length_append]
            omega
          · refine go_nextz (go_nextz (go_nextO (by walk_at "mu le") ?_))
            rw [fil_snoc (P := fun i => kb (i, j)) hb, ← List.append_assoc]
            exact ol_snoc rfl
        · refine go_nextz (go_nextO (by walk_at "mu le") ?_)
          rw [fil_skip (P := fun i => kb (i, j)) hb]
    · refine go_nextO (by walk_at "mu le") ?_
      rw [fm_snoc]
  · have pl2 : ((List.range l.length).flatMap fun j => ((List.range j).filter fun i => kb (i, j)).map fun i => (i, j)).length ≤ 1000000 := by
      refine Nat.le_trans (fm_len (n := 13) fun a ha => Nat.le_trans fil_le ?_) ?_
      · rw [List.mem_range] at ha
        rw [List.length_range]; omega
      · rw [List.length_range]; omega
    refine go_tell ?_
    refine go_ret ((ev_cb (ea_cons (ev_var rfl) ea_nil) (rc_sortedQ (δ := dNN) rd_nn pl2)).weak fun v N ⟨ys, hy, hp⟩ => ⟨ys, ?_, hp⟩)
    have e := JI_fm l.length kb G
    rw [List.map_id'' (fun _ => rfl)] at e
    rw [e]
    exact hy.1
def f_alike_of := Fs (fun x : Kd × (Int × Int) × List (List Str) × Wt × List (Nat × Nat) => Lst x.2.1.1 x.2.1.2 ∧ OkLot x.2.2.1 ∧ OkW x.2.2.2.1 ∧ (∀ p ∈ x.2.2.2.2, p.1 < x.2.2.1.length ∧ p.2 < x.2.2.1.length) ∧ x.2.2.2.2.length ≤ 1000) (fun x => [dK x.1, d2 x.2.1, dLot x.2.2.1, dWt x.2.2.2.1, dL (x.2.2.2.2.map dNN)])
  (fun x => dL (((x.2.2.2.2.filter (alikeF x.1 x.2.1.1 x.2.1.2 x.2.2.1 x.2.2.2.1)).map (prOf x.1 x.2.2.1 x.2.2.2.1)).map dPr))
theorem sc_alike_of : FnScope ["kind", "least", "lot", "weights", "some", "found", "i", "j", "words", "c", "share"] ["kind", "least", "lot", "weights", "some"] (defScope s_alike_of) := ⟨rfl, rfl, rfl, by decide +kernel, rfl, by decide +kernel, by decide +kernel⟩
theorem bd_alike_of : BindOk "alike_of" s_alike_of ["kind", "least", "lot", "weights", "some"] := fun _ _ _ _ _ _ us hl => match us, hl with | [_, _, _, _, _], _ => rfl
theorem ok_alike_of (T : Txt K mg kA signsZ kindsL) (F : DefF K mg "alike_of" s_alike_of) (c_share_of : Cal P w K mg base 3 "share_of" (spF f_share_of)) (c_weight : Cal P w K mg base 1 "weight" (spF f_weight)) (c_common : Cal P w K mg base 2 "common" (spF f_common)) : Cal P w K mg base 4 "alike_of" (spF f_alike_of) := by
  refine cal_fs F sc_alike_of bd_alike_of (fun z => by first | rfl | (cases z <;> rfl)) (fun f cdv A outer s H E hr => ⟨_, (pss_cons (ps_set (i := 5) sc_alike_of.nd rfl (Or.inl rfl) (pe_lst pa_nil))
    (pss_cons (ps_for PassesOwn.never rfl (pi_list (pv 4)) (pg_tup rfl (pgs_cons (pg_name (i := 6) sc_alike_of.nd rfl (Or.inl rfl)) (pgs_cons (pg_name (i := 7) sc_alike_of.nd rfl (Or.inl rfl)) pgs_nil))) (pss_cons (ps_asg (pe_cal c_common hr (by decide : (2 : Nat) ≤ 3) rfl (pa_cons (pe_ix (k_ixL K rfl) (pv 2) (pv 6) (fun _ _ => rfl)) (pa_cons (pe_ix (k_ixL K rfl) (pv 2) (pv 7) (fun _ _ => rfl)) (pa_cons (pv 3) pa_nil)))) (pg_tup rfl (pgs_cons (pg_name (i := 8) sc_alike_of.nd rfl (Or.inl rfl)) (pgs_cons (pg_name (i := 9) sc_alike_of.nd rfl (Or.inl rfl)) pgs_nil))))
    (pss_cons (ps_set (i := 10) sc_alike_of.nd rfl (Or.inl rfl) (pe_cal c_share_of hr (by decide : (3 : Nat) ≤ 3) rfl (pa_cons (pv 0) (pa_cons (pe_cal c_weight hr (by decide : (1 : Nat) ≤ 3) rfl (pa_cons (pe_ix (k_ixL K rfl) (pv 2) (pv 6) (fun _ _ => rfl)) (pa_cons (pv 3) pa_nil))) (pa_cons (pe_cal c_weight hr (by decide : (1 : Nat) ≤ 3) rfl (pa_cons (pe_ix (k_ixL K rfl) (pv 2) (pv 7) (fun _ _ => rfl)) (pa_cons (pv 3) pa_nil))) (pa_cons (pv 9) pa_nil))))))
    (pss_cons (ps_if (pt_cmpR op_ge (pe_op op_mulW (pe_ix (k_ixT K rfl) (pv 10) pe_int (fun _ _ => rfl)) (pe_ix (k_ixT K rfl) (pv 1) pe_int (fun _ _ => rfl))) (pe_op op_mulW (pe_ix (k_ixT K rfl) (pv 1) pe_int (fun _ _ => rfl)) (pe_ix (k_ixT K rfl) (pv 10) pe_int (fun _ _ => rfl))) (nomark _)) (pss_cons (ps_expr (pe_bm PySem.F.plainAttrs_list PySem.F.slot_list_append PySem.F.type_list_append mt_append (pv 5) (pa_cons (pe_tup (pa_cons (pv 6) (pa_cons (pv 7) (pa_cons (pv 10) pa_nil)))) pa_nil)))
    pss_nil) pss_nil)
    pss_nil))))
    (pss_cons (ps_ret (pv 5))
    pss_nil))), ?_⟩)
  rintro ⟨k, ⟨t, b⟩, l, W, some'⟩ ⟨h1, h2, h3, h4, h5⟩
  dsimp only at h1 h2 h3 h4 h5 ⊢
  have bt := h1.bt
  refine go_asgN (en_lst ea_nil) ?_
  refine go_for _ _ _ _ (fun pre => [some (dK k), some (d2 (t, b)), some (dLot l), some (dWt W), some (dL (some'.map dNN)), none, none, none, none, none, none]) (fun pre => some (oL 5 (((pre.filter (alikeF k t b l W)).map (prOf k l W)).map dPr))) (wi_list (ev_var rfl)) (fun _ => tg_tup2) (by walk_at "mu le") rfl (fun pre p post e => ?_) ?_ ok_k
  · obtain ⟨e1, e2⟩ := pre_len e
    obtain ⟨p1, p2⟩ := h4 p e2
    have sb := shr_bt (k := k) (h2.gt p1) (h2.gt p2) h3
    refine go_asgT (ev_call (ea_cons (ev_op (ev_var rfl) (ev_var rfl) (rv_ixL (atI_gt dLS p1))) (ea_cons (ev_op (ev_var rfl) (ev_var rfl) (rv_ixL (atI_gt dLS p2))) (ea_cons (ev_var rfl) ea_nil))) ⟨(gt l p.1, gt l p.2, W), (h2.gt p1).l, rfl, rfl⟩) tg_tup2 ?_
    refine go_asg (ev_call (ea_cons (ev_var rfl) (ea_cons (ev_call (ea_cons (ev_op (ev_var rfl) (ev_var rfl) (rv_ixL (atI_gt dLS p1))) (ea_cons (ev_var rfl) ea_nil)) ⟨(gt l p.1, W), (by have := (h2.gt p1).l; show (gt l p.1).length ≤ _; omega), rfl, rfl⟩) (ea_cons (ev_call (ea_cons (ev_op (ev_var rfl) (ev_var rfl) (rv_ixL (atI_gt dLS p2))) (ea_cons (ev_var rfl) ea_nil)) ⟨(gt l p.2, W), (by have := (h2.gt p2).l; show (gt l p.2).length ≤ _; omega), rfl, rfl⟩) (ea_cons (ev_var rfl) ea_nil)))) ⟨(k, wt (gt l p.1) W, wt (gt l p.2) W, cw (gt l p.1) (gt l p.2) W), ⟨wt_wg h3 (h2.gt p1).l, wt_wg h3 (h2.gt p2).l, cw_wg h3 (h2.gt p1).l, cw_le h3 _ _, cw_le2 h3 (h2.gt p1).nd (h2.gt p2).nd⟩, rfl, rfl⟩) ?_
    refine go_if (b := decide (t * (shr k (gt l p.1) (gt l p.2) W).2 ≤ (shr k (gt l p.1) (gt l p.2) W).1 * b)) (et_test (ev_op (ev_op (ev_op (ev_var rfl) ev_int (rv_ixT rfl)) (ev_op (ev_var rfl) ev_int (rv_ixT rfl)) (rv_mul (sb.1.cm bt.2))) (ev_op (ev_op (ev_var rfl) ev_int (rv_ixT rfl)) (ev_op (ev_var rfl) ev_int (rv_ixT rfl)) (rv_mul (bt.1.cm sb.2))) rv_ge)) (fun hb => ?_) (fun hb => ?_)
    · have hb : alikeF k t b l W p = true := by
        have := of_decide_eq_true hb
        show (!decide _) = true
        rw [decide_eq_false (by omega)]
        rfl
      refine go_assoc (go_app (ev_tup (ea_cons (ev_var rfl) (ea_cons (ev_var rfl) (ea_cons (ev_var rfl) ea_nil)))) ?_ ?_)
      · have := fil_le (P := alikeF k t b l W) (G := prOf k l W) (pre := pre)
        rw [List.length_map]
        omega
      · refine go_nextz (go_nextz (go_nextO (by walk_at "mu le") ?_))
        rw [fil_snoc (P := alikeF k t b l W) hb]
        exact ol_snoc rfl
    · have hb : alikeF k t b l W p = false := by
        have := of_decide_eq_false hb
        show (!decide _) = false
        rw [decide_eq_true (by omega)]
        rfl
      refine go_nextz (go_nextO (by walk_at "mu le") ?_)
      rw [fil_skip (P := alikeF k t b l W) hb]
  · refine go_tell ?_
    exact go_ret (ev_var rfl)
def f_with_common := Fs (fun x : List (List Str) × Wt × List (Nat × Nat) => OkLot x.1 ∧ (∀ p ∈ x.2.2, p.1 < x.1.length ∧ p.2 < x.1.length) ∧ x.2.2.length ≤ 1000) (fun x => [dLot x.1, dWt x.2.1, dL (x.2.2.map dNN)]) (fun x => dL ((x.2.2.map (rowOf x.1 x.2.1)).map dRow))
theorem sc_with_common : FnScope ["lot", "weights", "some", "i", "j"] ["lot", "weights", "some"] (defScope s_with_common) := ⟨rfl, rfl, rfl, by decide +kernel, rfl, by decide +kernel, by decide +kernel⟩
theorem bd_with_common : BindOk "with_common" s_with_common ["lot", "weights", "some"] := fun _ _ _ _ _ _ us hl => match us, hl with | [_, _, _], _ => rfl
theorem ok_with_common (T : Txt K mg kA signsZ kindsL) (F : DefF K mg "with_common" s_with_common) (c_common : Cal P w K mg base 2 "common" (spF f_common)) : Cal P w K mg base 3 "with_common" (spF f_with_common) := by
  refine cal_fs F sc_with_common bd_with_common (fun z => by first | rfl | (cases z <;> rfl)) (fun f cdv A outer s H E hr => ⟨_, (pss_cons (ps_ret (pe_lc (own := [("i", 3), ("j", 4)]) (g := (gTup K 2 (gCons (gName 3) (gCons (gName 4) gNil)))) (tt := tYes) rfl sc_with_common.nd (pi_list (pv 2)) (blkOk_by (N := ["lot", "weights", "some", "i", "j"]) (sc := defScope s_with_common) (by decide +kernel)) (fun _ _ _ _ _ => (pg_tup rfl (pgs_cons (pg_name (i := 3) sc_with_common.nd rfl (Or.inl rfl)) (pgs_cons (pg_name (i := 4) sc_with_common.nd rfl (Or.inl rfl)) pgs_nil)))) (fun _ _ _ _ _ => pts_nil) (fun _ _ _ _ _ => (pe_tup (pa_cons (pv 3) (pa_cons (pv 4) (pa_cons (pe_ix (k_ixT K rfl) (pe_cal c_common hr (by decide : (2 : Nat) ≤ 2) rfl (pa_cons (pe_ix (k_ixL K rfl) (pv 0) (pv 3) (fun _ _ => rfl)) (pa_cons (pe_ix (k_ixL K rfl) (pv 0) (pv 4) (fun _ _ => rfl)) (pa_cons (pv 1) pa_nil)))) pe_int (fun _ _ => rfl)) pa_nil)))))))
    pss_nil), ?_⟩)
  rintro ⟨l, W, some'⟩ ⟨h2, h4, h5⟩
  dsimp only at h2 h4 h5 ⊢
  exact go_ret (((en_lc0 _ _ _ _ (fun p => dRow (rowOf l W p)) (wi_list (ev_var rfl)) (fun _ => tg_tup2) (fun p hx => (ev_tup (ea_cons (ev_var rfl) (ea_cons (ev_var rfl) (ea_cons (ev_op (ev_call (ea_cons (ev_op (ev_var rfl) (ev_var rfl) (rv_ixL (atI_gt dLS (h4 p hx).1))) (ea_cons (ev_op (ev_var rfl) (ev_var rfl) (rv_ixL (atI_gt dLS (h4 p hx).2))) (ea_cons (ev_var rfl) ea_nil))) ⟨(gt l p.1, gt l p.2, W), (h2.gt (h4 p hx).1).l, rfl, rfl⟩) ev_int (rv_ixT rfl)) ea_nil))))) (by omega) (by decide))).ev.is (congrArg dL (List.map_map (g := dRow) (f := rowOf l W)).symm))
end
end Mu
/-! What a paper holds, and whether it shows all. -/
namespace Mu
open PySem PySem.Spec PyProof.Rows L2
local macro_rules | `(tactic| walk_at "mu le") => `(tactic| (repeat (first | exact trivial | refine ⟨by first | exact Or.inr rfl | exact Or.inl rfl, ?_⟩)))
abbrev dEs (es : List Nat) : Dn := dL (es.map fun e : Nat => dI (e : Int))
structure OkEnds (k : Kd) (t b : Int) (l : List (List Str)) (W : Wt) (ord : List Str) (es : List Nat) : Prop where
  n : es.length = l.length
  e : ∀ i, i < l.length → (bgn k t b (gt l i) W ord).length ≤ gt es i ∧ gt es i ≤ (gt l i).length
/-- a paper -/
inductive Pap where
  | all (rows : List (Int × Int × Int))
  | ends (ord : List Str) (es : List Nat) (rows : List (Int × Int × Int))
  | parts (ps : List (List Str)) (rows : List (Int × Int × Int))
def Pap.rows : Pap → List (Int × Int × Int)
  | .all r => r
  | .ends _ _ r => r
  | .parts _ r => r
def Pap.way : Pap → Str
  | .all _ => "all"
  | .ends _ _ _ => "beginnings"
  | .parts _ _ => "parts"
/-- behind its first word -/
def Pap.tl : Pap → List Dn
  | .all r => [dL (r.map dRow)]
  | .ends o es r => [dLS o, dEs es, dL (r.map dRow)]
  | .parts ps r => [dLot ps, dL (r.map dRow)]
abbrev Pap.d (p : Pap) : Dn := dT (dS p.way :: p.tl)
def OkPap (k : Kd) (t b : Int) (l : List (List Str)) (W : Wt) : Pap → Prop
  | .all _ => True
  | .ends o es _ => OkOrd l o ∧ OkEnds k t b l W o es
  | .parts ps _ => OkPs l ps
noncomputable def Pap.kb (k : Kd) (t b : Int) (l : List (List Str)) (W : Wt) : Pap → Nat × Nat → Bool
  | .all _ => fun _ => true
  | .ends o es _ => endsB k t b l W o es
  | .parts ps _ => keepsB k t b l W (some ps)
section
variable {P : Program} {w : World} {K : PySem.W.Frag} {mg : Str → Option Value} {base : Heap} {kA : Addr}
def f_are_whole := Fs (fun ns : List Int => ns.length ≤ 1000) (fun ns => [dT (ns.map dI)]) (fun _ => dB true)
theorem sc_are_whole : FnScope ["thing", "number"] ["thing"] (defScope s_are_whole) := ⟨rfl, rfl, rfl, by decide +kernel, rfl, by decide +kernel, by decide +kernel⟩
theorem bd_are_whole : BindOk "are_whole" s_are_whole ["thing"] := fun _ _ _ _ _ _ us hl => match us, hl with | [_], _ => rfl
theorem ok_are_whole (T : Txt K mg kA signsZ kindsL) (F : DefF K mg "are_whole" s_are_whole) : Cal P w K mg base 1 "are_whole" (spF f_are_whole) := by
  refine cal_fs F sc_are_whole bd_are_whole (fun z => by first | rfl | (cases z <;> rfl)) (fun f cdv A outer s H E hr => ⟨_, (pss_cons (ps_if (pt_not (pt_val (pe_callB (k_isi K rfl) (by rfl) T.isinstance (by decide +kernel) (pa_cons (pv 0) (pa_cons (pe_bltn (v := .ty "tuple") (by rfl) T.tuple (by decide +kernel) rfl) pa_nil))))) (pss_cons (ps_ret pe_bl)
    pss_nil) pss_nil)
    (pss_cons (ps_ret (pe_callB (k_all K rfl rfl) (by rfl) T.all (by decide +kernel) (pa_cons (pe_lc (own := [("number", 1)]) (g := (gName 1)) (tt := tYes) rfl sc_are_whole.nd (pi_tup (pv 0)) (blkOk_by (N := ["thing", "number"]) (sc := defScope s_are_whole) (by decide +kernel)) (fun _ _ _ _ _ => (pg_name (i := 1) sc_are_whole.nd rfl (Or.inl rfl))) (fun _ _ _ _ _ => pts_nil) (fun _ _ _ _ _ => (pe_and (pe_callB (k_isi K rfl) (by rfl) T.isinstance (by decide +kernel) (pa_cons (pv 1) (pa_cons (pe_bltn (v := .ty "int") (by rfl) T.int (by decide +kernel) rfl) pa_nil))) (pe_one (pe_not (pe_callB (k_isi K rfl) (by rfl) T.isinstance (by decide +kernel) (pa_cons (pv 1) (pa_cons (pe_bltn (v := .ty "bool") (by rfl) T.bool (by decide +kernel) rfl) pa_nil)))))))) pa_nil)))
    pss_nil)), ?_⟩)
  rintro ns h
  dsimp only at h ⊢
  refine go_if (et_not (et_B (ev_cb (ea_cons (ev_var rfl) (ea_cons ev_val ea_nil)) (rc_isi td_tup (b := true) (by rfl))))) (fun hb => ?_) (fun hb => ?_)
  · cases hb
  refine go_nextz ?_
  refine go_ret ((ev_cb (ea_cons (((en_lc0 _ _ _ _ (fun _ => dB true) (wi_tup (ev_var rfl)) (fun _ => tg_name) (fun x hx => (ev_andV (ev_cb (ea_cons (ev_var rfl) (ea_cons ev_val ea_nil)) (rc_isi td_int (b := true) (by rfl))) (fun _ => (ev_notV (ev_cb (ea_cons (ev_var rfl) (ea_cons ev_val ea_nil)) (rc_isi td_int (b := false) (by rfl))))))) (by omega) (by decide)).is (List.map_map (g := dB) (f := fun _ => true)).symm).ev) ea_nil) rc_all).is ?_)
  rw [all_true (fun _ _ => rfl)]
def f_is_text := Fs (fun _ : Str ⊕ List Dn => True) (fun z => match z with | .inl x => [dS x] | .inr es => [dL es]) (fun z => dB z.isLeft)
theorem sc_is_text : FnScope ["thing"] ["thing"] (defScope s_is_text) := ⟨rfl, rfl, rfl, by decide +kernel, rfl, by decide +kernel, by decide +kernel⟩
theorem bd_is_text : BindOk "is_text" s_is_text ["thing"] := fun _ _ _ _ _ _ us hl => match us, hl with | [_], _ => rfl
theorem ok_is_text (T : Txt K mg kA signsZ kindsL) (F : DefF K mg "is_text" s_is_text) : Cal P w K mg base 1 "is_text" (spF f_is_text) := by
  refine cal_fs F sc_is_text bd_is_text (fun z => by first | rfl | (cases z <;> rfl)) (fun f cdv A outer s H E hr => ⟨_, (pss_cons (ps_ret (pe_callB (k_isi K rfl) (by rfl) T.isinstance (by decide +kernel) (pa_cons (pv 0) (pa_cons (pe_bltn (v := .ty "str") (by rfl) T.str (by decide +kernel) rfl) pa_nil))))
    pss_nil), ?_⟩)
  rintro (x | es) -
  · exact go_ret (ev_cb (ea_cons (ev_var rfl) (ea_cons ev_val ea_nil)) (rc_isi td_str (b := true) (by rfl)))
  · exact go_ret (ev_cb (ea_cons (ev_var rfl) (ea_cons ev_val ea_nil)) (rc_isi td_lst (b := false) (by rfl)))
def f_is_row := Fs (fun _ : Int × Int × Int => True) (fun r => [dRow r]) (fun _ => dB true)
theorem sc_is_row : FnScope ["thing"] ["thing"] (defScope s_is_row) := ⟨rfl, rfl, rfl, by decide +kernel, rfl, by decide +kernel, by decide +kernel⟩
theorem bd_is_row : BindOk "is_row" s_is_row ["thing"] := fun _ _ _ _ _ _ us hl => match us, hl with | [_], _ => rfl
theorem ok_is_row (T : Txt K mg kA signsZ kindsL) (F : DefF K mg "is_row" s_is_row) (c_are_whole : Cal P w K mg base 1 "are_whole" (spF f_are_whole)) : Cal P w K mg base 2 "is_row" (spF f_is_row) := by
  refine cal_fs F sc_is_row bd_is_row (fun z => by first | rfl | (cases z <;> rfl)) (fun f cdv A outer s H E hr => ⟨_, (pss_cons (ps_ret (pe_and (pe_cal c_are_whole hr (by decide : (1 : Nat) ≤ 1) rfl (pa_cons (pv 0) pa_nil)) (pe_one (pe_cmpR op_eq (pe_callB (k_len K rfl) (by rfl) T.len PySem.boot_len (pa_cons (pv 0) pa_nil)) pe_int (nomark _)))))
    pss_nil), ?_⟩)
  rintro r -
  refine go_ret ((ev_andV (ev_call (ea_cons (ev_var rfl) ea_nil) ⟨[r.1, r.2.1, r.2.2], (by show (3 : Nat) ≤ 1000; decide), rfl, rfl⟩) (fun _ => ((ev_op (ev_cb (ea_cons (ev_var rfl) ea_nil) rc_lenT) ev_int rv_eqI)))).is ?_)
  rfl
def f_is_pair := Fs (fun _ : Int × Int × (Int × Int) => True) (fun r => [dPr r]) (fun _ => dB true)
theorem sc_is_pair : FnScope ["thing"] ["thing"] (defScope s_is_pair) := ⟨rfl, rfl, rfl, by decide +kernel, rfl, by decide +kernel, by decide +kernel⟩
theorem bd_is_pair : BindOk "is_pair" s_is_pair ["thing"] := fun _ _ _ _ _ _ us hl => match us, hl with | [_], _ => rfl
theorem ok_is_pair (T : Txt K mg kA signsZ kindsL) (F : DefF K mg "is_pair" s_is_pair) (c_are_whole : Cal P w K mg base 1 "are_whole" (spF f_are_whole)) : Cal P w K mg base 2 "is_pair" (spF f_is_pair) := by
  refine cal_fs F sc_is_pair bd_is_pair (fun z => by first | rfl | (cases z <;> rfl)) (fun f cdv A outer s H E hr => ⟨_, (pss_cons (ps_if (PW.pt (pw_or (pt_not (pt_val (pe_callB (k_isi K rfl) (by rfl) T.isinstance (by decide +kernel) (pa_cons (pv 0) (pa_cons (pe_bltn (v := .ty "tuple") (by rfl) T.tuple (by decide +kernel) rfl) pa_nil))))) (pw_or (pt_cmpR op_ne (pe_callB (k_len K rfl) (by rfl) T.len PySem.boot_len (pa_cons (pv 0) pa_nil)) pe_int (nomark _)) (pw_or1 (pt_not (pt_val (pe_cal c_are_whole hr (by decide : (1 : Nat) ≤ 1) rfl (pa_cons (pe_slice (k_slT K rfl) (pv 0) po_none (po_some pe_int)) pa_nil)))))))) (pss_cons (ps_ret pe_bl)
    pss_nil) pss_nil)
    (pss_cons (ps_ret (pe_and (pe_cal c_are_whole hr (by decide : (1 : Nat) ≤ 1) rfl (pa_cons (pe_ix (k_ixT K rfl) (pv 0) pe_int (fun _ _ => rfl)) pa_nil)) (pe_one (pe_cmpR op_eq (pe_callB (k_len K rfl) (by rfl) T.len PySem.boot_len (pa_cons (pe_ix (k_ixT K rfl) (pv 0) pe_int (fun _ _ => rfl)) pa_nil)) pe_int (nomark _)))))
    pss_nil)), ?_⟩)
  rintro r -
  refine go_if (et_or (et_not (et_B (ev_cb (ea_cons (ev_var rfl) (ea_cons ev_val ea_nil)) (rc_isi td_tup (b := true) (by rfl))))) (fun _ => (et_or (et_test (ev_op (ev_cb (ea_cons (ev_var rfl) ea_nil) rc_lenT) ev_int rv_neI)) (fun _ => (et_not (et_B (ev_call (ea_cons (ev_slT (ev_var rfl) eo_none (eo_some ev_int) (fun h => absurd h.2 (by show ¬ HT.sIx 3 3 (some 2) = 3; decide))) ea_nil) ⟨[r.1, r.2.1], (by show (2 : Nat) ≤ 1000; decide), rfl, rfl⟩))))))) (fun hb => ?_) (fun hb => ?_)
  · cases hb
  refine go_nextz ?_
  refine go_ret ((ev_andV (ev_call (ea_cons (ev_op (ev_var rfl) ev_int (rv_ixT rfl)) ea_nil) ⟨[r.2.2.1, r.2.2.2], (by show (2 : Nat) ≤ 1000; decide), rfl, rfl⟩) (fun _ => (ev_op (ev_cb (ea_cons (ev_op (ev_var rfl) ev_int (rv_ixT rfl)) ea_nil) rc_lenT) ev_int rv_eqI))).is ?_)
  rfl
structure LoA where
  es : List Dn
  f : Addr
  Φ : List Dn → Dn → Prop
def f_is_list_of (S : Addr → Option Sp) := Fs (fun x : LoA => S x.f = some (spF x.Φ) ∧ (∀ e ∈ x.es, x.Φ [e] (dB true)) ∧ x.es.length ≤ 1000000) (fun x => [dL x.es, dV (.ref x.f)]) (fun _ => dB true)
theorem sc_is_list_of : FnScope ["thing", "check", "one"] ["thing", "check"] (defScope s_is_list_of) := ⟨rfl, rfl, rfl, by decide +kernel, rfl, by decide +kernel, by decide +kernel⟩
theorem bd_is_list_of : BindOk "is_list_of" s_is_list_of ["thing", "check"] := fun _ _ _ _ _ _ us hl => match us, hl with | [_, _], _ => rfl
theorem ok_is_list_of {k : Nat} {S : Addr → Option Sp} (T : Txt K mg kA signsZ kindsL) (F : DefF K mg "is_list_of" s_is_list_of) (hS : ∀ f sp, S f = some sp → Held P w K mg base k f sp) : Cal P w K mg base (k + 1) "is_list_of" (spF (f_is_list_of S)) := by
  refine cal_fs F sc_is_list_of bd_is_list_of (fun _ => rfl) (fun f cdv A outer s H E hr => ⟨_, (pss_cons (ps_ret (pe_and (pe_callB (k_isi K rfl) (by rfl) T.isinstance (by decide +kernel) (pa_cons (pv 0) (pa_cons (pe_bltn (v := .ty "list") (by rfl) T.list (by decide +kernel) rfl) pa_nil))) (pe_one (pe_callB (k_all K rfl rfl) (by rfl) T.all (by decide +kernel) (pa_cons (pe_lc (own := [("one", 2)]) (g := (gName 2)) (tt := tYes) rfl sc_is_list_of.nd (pi_list (pv 0)) (blkOk_by (N := ["thing", "check", "one"]) (sc := defScope s_is_list_of) (by decide +kernel)) (fun _ _ _ _ _ => (pg_name (i := 2) sc_is_list_of.nd rfl (Or.inl rfl))) (fun _ _ _ _ _ => pts_nil) (fun _ _ _ _ _ => (pe_callA (i := 1) hS hr rfl (by first | exact Or.inl rfl | exact Or.inr (Or.inl rfl) | exact Or.inr (Or.inr rfl)) (pa_cons (pv 2) pa_nil)))) pa_nil)))))
    pss_nil), ?_⟩)
  rintro ⟨es, f, Φ⟩ ⟨h1, h2, h3⟩
  dsimp only at h1 h2 h3 ⊢
  refine go_ret ((ev_andV (ev_cb (ea_cons (ev_var rfl) (ea_cons ev_val ea_nil)) (rc_isi td_lst (b := true) (by rfl))) (fun _ => (ev_cb (ea_cons (((en_lc0 es id _ _ (fun _ => dB true) (wi_is (wi_list (ev_var rfl)) (List.map_id _).symm) (fun _ => tg_name) (fun e he => (ev_callA (ea_cons (ev_var rfl) ea_nil) rfl h1 (h2 e he))) h3 (by decide)).is (List.map_map (g := dB) (f := fun _ => true)).symm).ev) ea_nil) rc_all))).is ?_)
  rw [all_true (fun _ _ => rfl)]
  rfl
section
variable {aT aR aP aS : Addr}
def S1 (aT aR aP : Addr) : Addr → Option Sp := fun f => if f = aT then some (spF f_is_text) else if f = aR then some (spF f_is_row) else if f = aP then some (spF f_is_pair) else none
def f_are_texts := Fs (fun s : List Str => s.length ≤ 1000) (fun s => [dLS s]) (fun _ => dB true)
def S2 (aS : Addr) : Addr → Option Sp := fun f => if f = aS then some (spF f_are_texts) else none
theorem s1_t : S1 aT aR aP aT = some (spF f_is_text) := if_pos rfl
theorem s1_r (h : aR ≠ aT) : S1 aT aR aP aR = some (spF f_is_row) := (if_neg h).trans (if_pos rfl)
theorem s1_p (h : aP ≠ aT) (h2 : aP ≠ aR) : S1 aT aR aP aP = some (spF f_is_pair) := (if_neg h).trans ((if_neg h2).trans (if_pos rfl))
theorem s2_s : S2 aS aS = some (spF f_are_texts) := if_pos rfl
theorem Cal.held {k : Nat} {x : Str} {sp : Sp} {f : Addr} (c : Cal P w K mg base k x sp) (hm : mg x = some (.ref f)) : Held P w K mg base k f sp := by
  obtain ⟨f', fd, ps, F, h, kp, b⟩ := c.ex
  rw [hm] at h
  cases h
  exact ⟨fd, ps, F, kp, b⟩
theorem s1_held {k : Nat} (ct : Cal P w K mg base k "is_text" (spF f_is_text)) (mt : mg "is_text" = some (.ref aT)) (cr : Cal P w K mg base k "is_row" (spF f_is_row)) (mr : mg "is_row" = some (.ref aR)) (cp : Cal P w K mg base k "is_pair" (spF f_is_pair)) (mp : mg "is_pair" = some (.ref aP)) :
    ∀ f sp, S1 aT aR aP f = some sp → Held P w K mg base k f sp := fun f sp h => by
  unfold S1 at h
  split at h
  · rename_i e; subst e; cases h; exact ct.held mt
  split at h
  · rename_i e; subst e; cases h; exact cr.held mr
  split at h
  · rename_i e; subst e; cases h; exact cp.held mp
  · cases h
theorem s2_held {k : Nat} (cs : Cal P w K mg base k "are_texts" (spF f_are_texts)) (ms : mg "are_texts" = some (.ref aS)) : ∀ f sp, S2 aS f = some sp → Held P w K mg base k f sp := fun f sp h => by
  unfold S2 at h
  split at h
  · rename_i e; subst e; cases h; exact cs.held ms
  · cases h
theorem txt_ok (s : List Str) : ∀ e ∈ s.map dS, f_is_text [e] (dB true) := fun e he => by
  obtain ⟨x, _, rfl⟩ := List.mem_map.mp he
  exact ⟨.inl x, trivial, rfl, rfl⟩
theorem sc_are_texts : FnScope ["thing"] ["thing"] (defScope s_are_texts) := ⟨rfl, rfl, rfl, by decide +kernel, rfl, by decide +kernel, by decide +kernel⟩
theorem bd_are_texts : BindOk "are_texts" s_are_texts ["thing"] := fun _ _ _ _ _ _ us hl => match us, hl with | [_], _ => rfl
theorem ok_are_texts (T : Txt K mg kA signsZ kindsL) (F : DefF K mg "are_texts" s_are_texts) (c_is_list_of1 : Cal P w K mg base 3 "is_list_of" (spF (f_is_list_of (S1 aT aR aP)))) (m_is_text : mg "is_text" = some (.ref aT)) : Cal P w K mg base 4 "are_texts" (spF f_are_texts) := by
  refine cal_fs F sc_are_texts bd_are_texts (fun z => by first | rfl | (cases z <;> rfl)) (fun f cdv A outer s H E hr => ⟨_, (pss_cons (ps_ret (pe_cal c_is_list_of1 hr (by decide : (3 : Nat) ≤ 3) rfl (pa_cons (pv 0) (pa_cons (pe_defv (k := 0) (sp := fun _ _ _ _ => True) m_is_text rfl) pa_nil))))
    pss_nil), ?_⟩)
  rintro s h
  have h : s.length ≤ 1000 := h
  exact go_ret (ev_call (ea_cons (ev_var rfl) (ea_cons ev_val ea_nil)) ⟨⟨s.map dS, aT, f_is_text⟩, ⟨s1_t, txt_ok s, by rw [List.length_map]; omega⟩, rfl, rfl⟩)
def f_are_ends := Fs (fun x : Kd × (Int × Int) × List (List Str) × Wt × List Str × List Nat => Lst x.2.1.1 x.2.1.2 ∧ OkLot x.2.2.1 ∧ OkW x.2.2.2.1 ∧ OkS x.2.2.2.2.1 ∧ OkEnds x.1 x.2.1.1 x.2.1.2 x.2.2.1 x.2.2.2.1 x.2.2.2.2.1 x.2.2.2.2.2) (fun x => [dK x.1, d2 x.2.1, dLot x.2.2.1, dWt x.2.2.2.1, dLS x.2.2.2.2.1, dEs x.2.2.2.2.2]) (fun _ => dB true)
theorem sc_are_ends : FnScope ["kind", "least", "lot", "weights", "order", "ends", "words", "end"] ["kind", "least", "lot", "weights", "order", "ends"] (defScope s_are_ends) := ⟨rfl, rfl, rfl, by decide +kernel, rfl, by decide +kernel, by decide +kernel⟩
theorem bd_are_ends : BindOk "are_ends" s_are_ends ["kind", "least", "lot", "weights", "order", "ends"] := fun _ _ _ _ _ _ us hl => match us, hl with | [_, _, _, _, _, _], _ => rfl
theorem ok_are_ends (T : Txt K mg kA signsZ kindsL) (F : DefF K mg "are_ends" s_are_ends) (c_beginning : Cal P w K mg base 5 "beginning" (spF f_beginning)) (c_are_whole : Cal P w K mg base 1 "are_whole" (spF f_are_whole)) : Cal P w K mg base 6 "are_ends" (spF f_are_ends) := by
  refine cal_fs F sc_are_ends bd_are_ends (fun z => by first | rfl | (cases z <;> rfl)) (fun f cdv A outer s H E hr => ⟨_, (pss_cons (ps_if (PW.pt (pw_or (pt_not (pt_val (pe_callB (k_isi K rfl) (by rfl) T.isinstance (by decide +kernel) (pa_cons (pv 5) (pa_cons (pe_bltn (v := .ty "list") (by rfl) T.list (by decide +kernel) rfl) pa_nil))))) (pw_or (pt_cmpR op_ne (pe_callB (k_len K rfl) (by rfl) T.len PySem.boot_len (pa_cons (pv 5) pa_nil)) (pe_callB (k_len K rfl) (by rfl) T.len PySem.boot_len (pa_cons (pv 2) pa_nil)) (nomark _)) (pw_or1 (pt_not (pt_val (pe_cal c_are_whole hr (by decide : (1 : Nat) ≤ 5) rfl (pa_cons (pe_callTy (k_tuple K rfl) (by rfl) T.tuple (by decide +kernel) (pa_cons (pv 5) pa_nil)) pa_nil)))))))) (pss_cons (ps_ret pe_bl)
    pss_nil) pss_nil)
    (pss_cons (ps_for PassesOwn.never rfl (pi_zip (by rfl) T.zip (pa_cons (pv 2) (pa_cons (pv 5) pa_nil))) (pg_tup rfl (pgs_cons (pg_name (i := 6) sc_are_ends.nd rfl (Or.inl rfl)) (pgs_cons (pg_name (i := 7) sc_are_ends.nd rfl (Or.inl rfl)) pgs_nil))) (pss_cons (ps_if (PW.pt (pw_or (pt_cmpR op_lt (pv 7) (pe_callB (k_len K rfl) (by rfl) T.len PySem.boot_len (pa_cons (pe_cal c_beginning hr (by decide : (5 : Nat) ≤ 5) rfl (pa_cons (pv 0) (pa_cons (pv 1) (pa_cons (pv 6) (pa_cons (pv 3) (pa_cons (pv 4) pa_nil)))))) pa_nil)) (nomark _)) (pw_or1 (pt_cmpR op_gt (pv 7) (pe_callB (k_len K rfl) (by rfl) T.len PySem.boot_len (pa_cons (pv 6) pa_nil)) (nomark _))))) (pss_cons (ps_ret pe_bl)
    pss_nil) pss_nil)
    pss_nil))
    (pss_cons (ps_ret pe_bl)
    pss_nil))), ?_⟩)
  rintro ⟨k, ⟨t, b⟩, l, W, ord, es⟩ ⟨h1, h2, h3, h4, h5⟩
  dsimp only at h1 h2 h3 h4 h5 ⊢
  have hn := h2.n
  have hl := h5.n
  refine go_if (et_or (et_not (et_B (ev_cb (ea_cons (ev_var rfl) (ea_cons ev_val ea_nil)) (rc_isi td_lst (b := true) (by rfl))))) (fun _ => (et_or (et_test (ev_op (ev_cb (ea_cons (ev_var rfl) ea_nil) rc_len) (ev_cb (ea_cons (ev_var rfl) ea_nil) rc_len) rv_neI)) (fun _ => (et_not (et_B (ev_call (ea_cons (ev_cb (ea_cons (ev_var rfl) ea_nil) rc_tuple) ea_nil) ⟨es.map fun e : Nat => (e : Int), (by show (List.map _ es).length ≤ 1000; rw [List.length_map]; omega), congrArg (fun z => [dT z]) (List.map_map (g := dI) (f := fun e : Nat => (e : Int))).symm, rfl⟩))))))) (fun hb => ?_) (fun hb => ?_)
  · exfalso
    rw [List.length_map, List.length_map, hl] at hb
    simp at hb
  refine go_nextz ?_
  refine go_for _ _ _ _ (fun pre => [some (dK k), some (d2 (t, b)), some (dLot l), some (dWt W), some (dLS ord), some (dEs es), none, none]) (fun pre => none) (wi_zipR (δ := dLS) (ε := fun e : Nat => dI (e : Int)) hl.symm (ea_cons (ev_var rfl) (ea_cons (ev_var rfl) ea_nil))) (fun _ => tg_tup2) (by walk_at "mu le") rfl (fun pre i post e => ?_) (go_ret ev_bl) ok_n
  obtain ⟨e1, e2⟩ := range_len e
  obtain ⟨g1, g2⟩ := h5.e i e2
  refine go_if (et_or (et_test (ev_op (ev_var rfl) (ev_cb (ea_cons (ev_call (ea_cons (ev_var rfl) (ea_cons (ev_var rfl) (ea_cons (ev_var rfl) (ea_cons (ev_var rfl) (ea_cons (ev_var rfl) ea_nil))))) ⟨(k, (t, b), gt l i, W, ord), ⟨h1, h2.gt e2, h3, h4⟩, rfl, rfl⟩) ea_nil) rc_len) rv_lt)) (fun _ => (et_test (ev_op (ev_var rfl) (ev_cb (ea_cons (ev_var rfl) ea_nil) rc_len) rv_gt)))) (fun hb => ?_) (fun hb => ?_)
  · exfalso
    rw [List.length_map, List.length_map] at hb
    simp only [Bool.or_eq_true, decide_eq_true_eq] at hb
    omega
  · exact go_nextz (go_next (by walk_at "mu le"))
def f_held_by_ends := Fs (fun x : Kd × (Int × Int) × List (List Str) × Wt × List Str × List Nat => Lst x.2.1.1 x.2.1.2 ∧ OkLot x.2.2.1 ∧ OkW x.2.2.2.1 ∧ OkS x.2.2.2.2.1 ∧ x.2.2.2.2.2.length = x.2.2.1.length) (fun x => [dK x.1, d2 x.2.1, dLot x.2.2.1, dWt x.2.2.2.1, dLS x.2.2.2.2.1, dEs x.2.2.2.2.2])
  (fun x => dL (((JI x.2.2.1.length).filter (endsB x.1 x.2.1.1 x.2.1.2 x.2.2.1 x.2.2.2.1 x.2.2.2.2.1 x.2.2.2.2.2)).map dNN))
theorem sc_held_by_ends : FnScope ["kind", "least", "lot", "weights", "order", "ends", "sizes", "firsts", "found", "j", "i", "words", "end"] ["kind", "least", "lot", "weights", "order", "ends"] (defScope s_held_by_ends) := ⟨rfl, rfl, rfl, by decide +kernel, rfl, by decide +kernel, by decide +kernel⟩
theorem bd_held_by_ends : BindOk "held_by_ends" s_held_by_ends ["kind", "least", "lot", "weights", "order", "ends"] := fun _ _ _ _ _ _ us hl => match us, hl with | [_, _, _, _, _, _], _ => rfl
theorem ok_held_by_ends (T : Txt K mg kA signsZ kindsL) (F : DefF K mg "held_by_ends" s_held_by_ends) (c_are_mates : Cal P w K mg base 4 "are_mates" (spF f_are_mates)) (c_weight : Cal P w K mg base 1 "weight" (spF f_weight)) (c_in_order : Cal P w K mg base 1 "in_order" (spF f_in_order)) (c_begins_alike : Cal P w K mg base 1 "begins_alike" (spF f_begins_alike)) : Cal P w K mg base 5 "held_by_ends" (spF f_held_by_ends) := by
  refine cal_fs F sc_held_by_ends bd_held_by_ends (fun z => by first | rfl | (cases z <;> rfl)) (fun f cdv A outer s H E hr => ⟨_, (pss_cons (ps_setLc (i := 6) (own := [("words", 11)]) (g := (gName 11)) (tt := tYes) rfl sc_held_by_ends.nd rfl rfl (sw_true rfl rfl rfl (by decide +kernel)) (pi_list (pv 2)) (blkOk_by (N := ["kind", "least", "lot", "weights", "order", "ends", "sizes", "firsts", "found", "j", "i", "words", "end"]) (sc := defScope s_held_by_ends) (by decide +kernel)) (fun _ _ _ _ _ => (pg_name (i := 11) sc_held_by_ends.nd rfl (Or.inl rfl))) (fun _ _ _ _ _ => pts_nil) (fun _ _ _ _ _ => (pe_cal c_weight hr (by decide : (1 : Nat) ≤ 4) rfl (pa_cons (pv 11) (pa_cons (pv 3) pa_nil)))))
    (pss_cons (ps_setLc (i := 7) (own := [("words", 11), ("end", 12)]) (g := (gTup K 2 (gCons (gName 11) (gCons (gName 12) gNil)))) (tt := tYes) rfl sc_held_by_ends.nd rfl rfl (sw_true rfl rfl rfl (by decide +kernel)) (pi_zip (by rfl) T.zip (pa_cons (pv 2) (pa_cons (pv 5) pa_nil))) (blkOk_by (N := ["kind", "least", "lot", "weights", "order", "ends", "sizes", "firsts", "found", "j", "i", "words", "end"]) (sc := defScope s_held_by_ends) (by decide +kernel)) (fun _ _ _ _ _ => (pg_tup rfl (pgs_cons (pg_name (i := 11) sc_held_by_ends.nd rfl (Or.inl rfl)) (pgs_cons (pg_name (i := 12) sc_held_by_ends.nd rfl (Or.inl rfl)) pgs_nil)))) (fun _ _ _ _ _ => pts_nil) (fun _ _ _ _ _ => (pe_slice (k_slL K rfl) (pe_cal c_in_order hr (by decide : (1 : Nat) ≤ 4) rfl (pa_cons (pv 11) (pa_cons (pv 4) pa_nil))) po_none (po_some (pv 12)))))
    (pss_cons (ps_set (i := 8) sc_held_by_ends.nd rfl (Or.inl rfl) (pe_lst pa_nil))
    (pss_cons (ps_for PassesOwn.never rfl (pi_range1 rfl T.range (pa_cons (pe_callB (k_len K rfl) (by rfl) T.len PySem.boot_len (pa_cons (pv 2) pa_nil)) pa_nil)) (pg_name (i := 9) sc_held_by_ends.nd rfl (Or.inl rfl)) (pss_cons (ps_for PassesOwn.never rfl (pi_range1 rfl T.range (pa_cons (pv 9) pa_nil)) (pg_name (i := 10) sc_held_by_ends.nd rfl (Or.inl rfl)) (pss_cons (ps_if (PW.pt (pw_and (pt_val (pe_cal c_are_mates hr (by decide : (4 : Nat) ≤ 4) rfl (pa_cons (pv 0) (pa_cons (pv 1) (pa_cons (pe_ix (k_ixL K rfl) (pv 6) (pv 10) (fun _ _ => rfl)) (pa_cons (pe_ix (k_ixL K rfl) (pv 6) (pv 9) (fun _ _ => rfl)) pa_nil)))))) (pw_and1 (pt_val (pe_cal c_begins_alike hr (by decide : (1 : Nat) ≤ 4) rfl (pa_cons (pe_ix (k_ixL K rfl) (pv 7) (pv 10) (fun _ _ => rfl)) (pa_cons (pe_ix (k_ixL K rfl) (pv 7) (pv 9) (fun _ _ => rfl)) pa_nil))))))) (pss_cons (ps_expr (pe_bm PySem.F.plainAttrs_list PySem.F.slot_list_append PySem.F.type_list_append mt_append (pv 8) (pa_cons (pe_tup (pa_cons (pv 10) (pa_cons (pv 9) pa_nil))) pa_nil)))
    pss_nil) pss_nil)
    pss_nil))
    pss_nil))
    (pss_cons (ps_ret (pv 8))
    pss_nil))))), ?_⟩)
  rintro ⟨k, ⟨t, b⟩, l, W, ord, es⟩ ⟨h1, h2, h3, h4, h5⟩
  dsimp only at h1 h2 h3 h4 h5 ⊢
  have hn := h2.n
  let fi : Nat → List Str := fun i => (ordF (gt l i) ord).take (gt es i)
  let kb := endsB k t b l W ord es
  refine go_asg ((en_lc0 _ _ _ _ (fun s => dI (wt s W)) (wi_list (ev_var rfl)) (fun _ => tg_name) (fun s hs => (ev_call (ea_cons (ev_var rfl) (ea_cons (ev_var rfl) ea_nil)) ⟨(s, W), (by have := (h2.s s hs).l; show s.length ≤ _; omega), rfl, rfl⟩)) (by omega) (by decide))).ev ?_
  refine go_asg ((en_lc0 _ _ _ _ (fun i => dLS (fi i)) (wi_zipR (δ := dLS) (ε := fun e : Nat => dI (e : Int)) h5.symm (ea_cons (ev_var rfl) (ea_cons (ev_var rfl) ea_nil))) (fun _ => tg_tup2) (fun i hi => ((en_slL (ev_call (ea_cons (ev_var rfl) (ea_cons (ev_var rfl) ea_nil)) ⟨(gt l i, ord), (by have := h4.l; show ord.length ≤ _; omega), rfl, rfl⟩) eo_none (eo_some (ev_var rfl))).ev.is (by rw [cut_to (by omega)]; exact congrArg dL (List.map_take ..).symm))) (by rw [List.length_range]; omega) (by decide))).ev ?_
  refine go_asgN (en_lst ea_nil) ?_
  have fat : ∀ i, i < l.length → atI ((List.range l.length).map fun i => dLS (fi i)) (i : Int) = some (dLS (fi i)) := fun i hi => atI_map (f := fun i => dLS (fi i)) (atI_nat (by rw [List.getElem?_range hi]))
  refine go_for _ _ _ _ (fun pre => [some (dK k), some (d2 (t, b)), some (dLot l), some (dWt W), some (dLS ord), some (dEs es), some (dL (l.map fun s => dI (wt s W))), some (dL ((List.range l.length).map fun i => dLS (fi i))), none, none, none, none, none]) (fun pre => some (oL 8 ((pre.flatMap fun j => ((List.range j).filter fun i => kb (i, j)).map fun i => (i, j)).map dNN))) (wi_range1N (n := l.length) (ea_cons ((ev_cb (ea_cons (ev_var rfl) ea_nil) rc_len).is (by rw [List.length_map])) ea_nil) (by omega)) (fun _ => tg_name) (by walk_at "mu le") rfl (fun pre j post e => ?_) ?_ ok_k
  · obtain ⟨e1, e2⟩ := range_len e
    have pl : (pre.flatMap fun j => ((List.range j).filter fun i => kb (i, j)).map fun i => (i, j)).length ≤ 13 * 13 := by
      refine Nat.le_trans (fm_len (n := 13) fun a ha => Nat.le_trans fil_le ?_) (Nat.mul_le_mul_right 13 (by omega))
      have : a ∈ List.range l.length := by rw [e]; exact List.mem_append_left _ ha
      rw [List.mem_range] at this
      rw [List.length_range]; omega
    refine go_for _ _ _ _ (fun pre2 => [some (dK k), some (d2 (t, b)), some (dLot l), some (dWt W), some (dLS ord), some (dEs es), some (dL (l.map fun s => dI (wt s W))), some (dL ((List.range l.length).map fun i => dLS (fi i))), none, some (dI j), none, none, none]) (fun pre2 => some (oL 8 (((pre.flatMap fun j => ((List.range j).filter fun i => kb (i, j)).map fun i => (i, j)) ++ (pre2.filter fun i => kb (i, j)).map fun i => (i, j)).map dNN))) (wi_range1N (n := j) (ea_cons (ev_var rfl) ea_nil) (by omega)) (fun _ => tg_name) (by walk_at "mu le") (by rw [List.filter_nil, List.map_nil, List.append_nil]) (fun pre2 i post2 e' => ?_) ?_ ok_k
    · obtain ⟨q1, q2⟩ := range_len e'
      have hi : i < l.length := by omega
      have wi := wt_wg h3 (h2.gt hi).l
      have wj := wt_wg h3 (h2.gt e2).l
      have fl : (fi i).length ≤ 1000 := by
        have := (ordF_ok (s := gt l i) h4).l
        have h6 : (fi i).length ≤ (ordF (gt l i) ord).length := by show (List.take _ _).length ≤ _; rw [List.length_take]; omega
        omega
      refine go_if (b := kb (i, j)) (et_and (et_B (ev_call (ea_cons (ev_var rfl) (ea_cons (ev_var rfl) (ea_cons (ev_op (ev_var rfl) (ev_var rfl) (rv_ixL (sizes_at hi))) (ea_cons (ev_op (ev_var rfl) (ev_var rfl) (rv_ixL (sizes_at e2))) ea_nil)))) ⟨(k, (t, b), wt (gt l i) W, wt (gt l j) W), ⟨h1, wi, wj⟩, rfl, rfl⟩)) (fun _ => (et_B (ev_call (ea_cons (ev_op (ev_var rfl) (ev_var rfl) (rv_ixL (fat i hi))) (ea_cons (ev_op (ev_var rfl) (ev_var rfl) (rv_ixL (fat j e2))) ea_nil)) ⟨(fi i, fi j), fl, rfl, rfl⟩)))) (fun hb => ?_) (fun hb => ?_)
      · refine go_assoc (go_app (ev_tup (ea_cons (ev_var rfl) (ea_cons (ev_var rfl) ea_nil))) ?_ ?_)
        · have := fil_le (P := fun i => kb (i, j)) (G := fun i => (i, j)) (pre := pre2)
          rw [List.length_map, List.length_append]
          omega
        · refine go_nextz (go_nextz (go_nextO (by walk_at "mu le") ?_))
          rw [fil_snoc (P := fun i => kb (i, j)) hb, ← List.append_assoc]
          exact ol_snoc rfl
      · refine go_nextz (go_nextO (by walk_at "mu le") ?_)
        rw [fil_skip (P := fun i => kb (i, j)) hb]
    · refine go_nextO (by walk_at "mu le") ?_
      rw [fm_snoc]
  · refine go_tell ?_
    refine go_ret ((ev_var rfl).is ?_)
    have e := JI_fm l.length kb fun p => p
    rw [List.map_id'' (fun _ => rfl)] at e
    rw [← e]
def f_is_order := Fs (fun x : List (List Str) × List Str => OkOrd x.1 x.2 ∧ OkLot x.1) (fun x => [dLot x.1, dLS x.2]) (fun _ => dB true)
theorem sc_is_order : FnScope ["lot", "order"] ["lot", "order"] (defScope s_is_order) := ⟨rfl, rfl, rfl, by decide +kernel, rfl, by decide +kernel, by decide +kernel⟩
theorem bd_is_order : BindOk "is_order" s_is_order ["lot", "order"] := fun _ _ _ _ _ _ us hl => match us, hl with | [_, _], _ => rfl
theorem ok_is_order (T : Txt K mg kA signsZ kindsL) (F : DefF K mg "is_order" s_is_order) (c_check_order : Cal P w K mg base 2 "check_order" (spF f_check_order)) (c_is_list_of1 : Cal P w K mg base 3 "is_list_of" (spF (f_is_list_of (S1 aT aR aP)))) {aX : Addr} (gX : mg "NoOrder" = some (.ref aX)) (m_is_text : mg "is_text" = some (.ref aT)) : Cal P w K mg base 4 "is_order" (spF f_is_order) := by
  refine cal_fs F sc_is_order bd_is_order (fun z => by first | rfl | (cases z <;> rfl)) (fun f cdv A outer s H E hr => ⟨_, (pss_cons (ps_if (pt_not (pt_val (pe_cal c_is_list_of1 hr (by decide : (3 : Nat) ≤ 3) rfl (pa_cons (pv 1) (pa_cons (pe_defv (k := 0) (sp := fun _ _ _ _ => True) m_is_text rfl) pa_nil))))) (pss_cons (ps_ret pe_bl)
    pss_nil) pss_nil)
    (pss_cons (ps_try_only (c := .ref aX) rfl rfl ⟨rfl, by decide, .inl gX⟩ takes0 (fun W pn xe tk _ => (pss_cons (ps_expr (pe_cal c_check_order hr (by decide : (2 : Nat) ≤ 3) rfl (pa_cons (pv 0) (pa_cons (pv 1) pa_nil))))
    pss_nil)) (fun a oe cls d pn _ _ => (pss_cons (ps_ret pe_bl)
    pss_nil)))
    (pss_cons (ps_ret pe_bl)
    pss_nil))), ?_⟩)
  rintro ⟨l, ord⟩ ⟨h, hl⟩
  dsimp only at h hl ⊢
  refine go_if (et_not (et_B (ev_call (ea_cons (ev_var rfl) (ea_cons ev_val ea_nil)) ⟨⟨ord.map dS, aT, f_is_text⟩, ⟨s1_t, txt_ok ord, by rw [List.length_map]; have := h.s.l; show ord.length ≤ _; omega⟩, rfl, rfl⟩))) (fun hb => ?_) (fun hb => ?_)
  · cases hb
  refine go_nextz (go_assoc ?_)
  refine go_drop (ev_call (ea_cons (ev_var rfl) (ea_cons (ev_var rfl) ea_nil)) ⟨(l, ord), ⟨h, hl⟩, rfl, rfl⟩) ?_
  exact go_nextz (go_ret ev_bl)
def f_are_parts := Fs (fun x : List (List Str) × List (List Str) => OkPs x.1 x.2 ∧ OkLot x.1) (fun x => [dLot x.1, dLot x.2]) (fun _ => dB true)
theorem sc_are_parts : FnScope ["lot", "parts"] ["lot", "parts"] (defScope s_are_parts) := ⟨rfl, rfl, rfl, by decide +kernel, rfl, by decide +kernel, by decide +kernel⟩
theorem bd_are_parts : BindOk "are_parts" s_are_parts ["lot", "parts"] := fun _ _ _ _ _ _ us hl => match us, hl with | [_, _], _ => rfl
theorem ok_are_parts (T : Txt K mg kA signsZ kindsL) (F : DefF K mg "are_parts" s_are_parts) (c_check_parts : Cal P w K mg base 2 "check_parts" (spF f_check_parts)) (c_is_list_of2 : Cal P w K mg base 5 "is_list_of" (spF (f_is_list_of (S2 aS)))) {aX : Addr} (gX : mg "NoParts" = some (.ref aX)) (m_are_texts : mg "are_texts" = some (.ref aS)) : Cal P w K mg base 6 "are_parts" (spF f_are_parts) := by
  refine cal_fs F sc_are_parts bd_are_parts (fun z => by first | rfl | (cases z <;> rfl)) (fun f cdv A outer s H E hr => ⟨_, (pss_cons (ps_if (pt_not (pt_val (pe_cal c_is_list_of2 hr (by decide : (5 : Nat) ≤ 5) rfl (pa_cons (pv 1) (pa_cons (pe_defv (k := 0) (sp := fun _ _ _ _ => True) m_are_texts rfl) pa_nil))))) (pss_cons (ps_ret pe_bl)
    pss_nil) pss_nil)
    (pss_cons (ps_try_only (c := .ref aX) rfl rfl ⟨rfl, by decide, .inl gX⟩ takes0 (fun W pn xe tk _ => (pss_cons (ps_expr (pe_cal c_check_parts hr (by decide : (2 : Nat) ≤ 5) rfl (pa_cons (pv 0) (pa_cons (pv 1) pa_nil))))
    pss_nil)) (fun a oe cls d pn _ _ => (pss_cons (ps_ret pe_bl)
    pss_nil)))
    (pss_cons (ps_ret pe_bl)
    pss_nil))), ?_⟩)
  rintro ⟨l, ps⟩ ⟨h, hl⟩
  dsimp only at h hl ⊢
  refine go_if (et_not (et_B (ev_call (ea_cons (ev_var rfl) (ea_cons ev_val ea_nil)) ⟨⟨ps.map dLS, aS, f_are_texts⟩, ⟨s2_s, fun e he => by
    obtain ⟨p, hp, rfl⟩ := List.mem_map.mp he
    exact ⟨p, by have := (h.part hp).l; show p.length ≤ _; omega, rfl, rfl⟩, by rw [List.length_map]; have := h.n; show ps.length ≤ _; omega⟩, rfl, rfl⟩))) (fun hb => ?_) (fun hb => ?_)
  · cases hb
  refine go_nextz (go_assoc ?_)
  refine go_drop (ev_call (ea_cons (ev_var rfl) (ea_cons (ev_var rfl) ea_nil)) ⟨(l, ps), ⟨h, hl⟩, rfl, rfl⟩) ?_
  exact go_nextz (go_ret ev_bl)
end
end
end Mu
/-! shows_all. -/
namespace Mu
open PySem PySem.Spec PyProof.Rows L2
local macro_rules | `(tactic| walk_at "mu le") => `(tactic| (repeat (first | exact trivial | refine ⟨by first | exact Or.inr rfl | exact Or.inl rfl, ?_⟩)))
/-- a paper, or one that is spoilt: another first word, or none -/
inductive PapX where
  | good (p : Pap)
  | bad (w : Str) (p : Pap)
  | cut (p : Pap)
def PapX.d : PapX → Dn
  | .good p => p.d
  | .bad w p => dT (dS w :: p.tl)
  | .cut p => dT p.tl
def OkX (k : Kd) (t b : Int) (l : List (List Str)) (W : Wt) : PapX → Prop
  | .good p => OkPap k t b l W p
  | .bad w _ => w ≠ "all" ∧ w ≠ "beginnings" ∧ w ≠ "parts"
  | .cut _ => True
noncomputable def Pap.J (k : Kd) (t b : Int) (l : List (List Str)) (W : Wt) (p : Pap) : List (Nat × Nat) := (JI l.length).filter (p.kb k t b l W)
noncomputable def heldR (k : Kd) (t b : Int) (l : List (List Str)) (W : Wt) : PapX → Dn
  | .good p => dEx (fun ys : List (Nat × Nat) => ys.Perm (p.J k t b l W)) fun ys => dL (ys.map dNN)
  | _ => dN
noncomputable def showsB (k : Kd) (t b : Int) (l : List (List Str)) (W : Wt) (prs : List (Int × Int × (Int × Int))) : PapX → Bool
  | .good p => decide (p.rows.Perm ((p.J k t b l W).map (rowOf l W))) && decide (prs.Perm (((p.J k t b l W).filter (alikeF k t b l W)).map (prOf k l W)))
  | _ => false
section
variable {P : Program} {w : World} {K : PySem.W.Frag} {mg : Str → Option Value} {base : Heap} {kA : Addr} {aT aR aP aS : Addr}
def f_held_of := Fs (fun x : Kd × (Int × Int) × List (List Str) × Wt × PapX => Lst x.2.1.1 x.2.1.2 ∧ OkLot x.2.2.1 ∧ OkW x.2.2.2.1 ∧ OkX x.1 x.2.1.1 x.2.1.2 x.2.2.1 x.2.2.2.1 x.2.2.2.2) (fun x => [dK x.1, d2 x.2.1, dLot x.2.2.1, dWt x.2.2.2.1, x.2.2.2.2.d]) (fun x => heldR x.1 x.2.1.1 x.2.1.2 x.2.2.1 x.2.2.2.1 x.2.2.2.2)
theorem Pap.at0 {d : Dn} (p : Pap) : atI (d :: p.tl) 0 = some d := by cases p <;> rfl
theorem ds_t : decide (("all" : Str) = "all") = true ∧ decide (("beginnings" : Str) = "all") = false ∧ decide (("beginnings" : Str) = "beginnings") = true ∧ decide (("parts" : Str) = "all") = false ∧ decide (("parts" : Str) = "beginnings") = false ∧ decide (("parts" : Str) = "parts") = true := by decide
theorem sc_held_of : FnScope ["kind", "least", "lot", "weights", "paper"] ["kind", "least", "lot", "weights", "paper"] (defScope s_held_of) := ⟨rfl, rfl, rfl, by decide +kernel, rfl, by decide +kernel, by decide +kernel⟩
theorem bd_held_of : BindOk "held_of" s_held_of ["kind", "least", "lot", "weights", "paper"] := fun _ _ _ _ _ _ us hl => match us, hl with | [_, _, _, _, _], _ => rfl
theorem ok_held_of (T : Txt K mg kA signsZ kindsL) (F : DefF K mg "held_of" s_held_of) (c_held_pairs : Cal P w K mg base 7 "held_pairs" (spF f_held_pairs)) (c_is_text : Cal P w K mg base 1 "is_text" (spF f_is_text)) (c_are_ends : Cal P w K mg base 6 "are_ends" (spF f_are_ends)) (c_held_by_ends : Cal P w K mg base 5 "held_by_ends" (spF f_held_by_ends)) (c_is_order : Cal P w K mg base 4 "is_order" (spF f_is_order)) (c_are_parts : Cal P w K mg base 6 "are_parts" (spF f_are_parts)) : Cal P w K mg base 8 "held_of" (spF f_held_of) := by
  refine cal_fs F sc_held_of bd_held_of (fun z => by first | rfl | (cases z <;> rfl)) (fun f cdv A outer s H E hr => ⟨_, (pss_cons (ps_if (PW.pt (pw_or (pt_not (pt_val (pe_callB (k_isi K rfl) (by rfl) T.isinstance (by decide +kernel) (pa_cons (pv 4) (pa_cons (pe_bltn (v := .ty "tuple") (by rfl) T.tuple (by decide +kernel) rfl) pa_nil))))) (pw_or (pt_cmpR op_lt (pe_callB (k_len K rfl) (by rfl) T.len PySem.boot_len (pa_cons (pv 4) pa_nil)) pe_int (nomark _)) (pw_or1 (pt_not (pt_val (pe_cal c_is_text hr (by decide : (1 : Nat) ≤ 7) rfl (pa_cons (pe_ix (k_ixT K rfl) (pv 4) pe_int (fun _ _ => rfl)) pa_nil)))))))) (pss_cons (ps_ret pe_non)
    pss_nil) pss_nil)
    (pss_cons (ps_if (PW.pt (pw_and (pt_cmpR op_eq (pe_ix (k_ixT K rfl) (pv 4) pe_int (fun _ _ => rfl)) pe_str (nomark _)) (pw_and1 (pt_cmpR op_eq (pe_callB (k_len K rfl) (by rfl) T.len PySem.boot_len (pa_cons (pv 4) pa_nil)) pe_int (nomark _))))) (pss_cons (ps_ret (pe_cal c_held_pairs hr (by decide : (7 : Nat) ≤ 7) rfl (pa_cons pe_str (pa_cons (pv 0) (pa_cons (pv 1) (pa_cons (pv 2) (pa_cons (pv 3) (pa_cons pe_non pa_nil))))))))
    pss_nil) pss_nil)
    (pss_cons (ps_if (PW.pt (pw_and (pt_cmpR op_eq (pe_ix (k_ixT K rfl) (pv 4) pe_int (fun _ _ => rfl)) pe_str (nomark _)) (pw_and (pt_cmpR op_eq (pe_callB (k_len K rfl) (by rfl) T.len PySem.boot_len (pa_cons (pv 4) pa_nil)) pe_int (nomark _)) (pw_and1 (pt_val (pe_cal c_is_order hr (by decide : (4 : Nat) ≤ 7) rfl (pa_cons (pv 2) (pa_cons (pe_ix (k_ixT K rfl) (pv 4) pe_int (fun _ _ => rfl)) pa_nil)))))))) (pss_cons (ps_if (pt_val (pe_cal c_are_ends hr (by decide : (6 : Nat) ≤ 7) rfl (pa_cons (pv 0) (pa_cons (pv 1) (pa_cons (pv 2) (pa_cons (pv 3) (pa_cons (pe_ix (k_ixT K rfl) (pv 4) pe_int (fun _ _ => rfl)) (pa_cons (pe_ix (k_ixT K rfl) (pv 4) pe_int (fun _ _ => rfl)) pa_nil)))))))) (pss_cons (ps_ret (pe_cal c_held_by_ends hr (by decide : (5 : Nat) ≤ 7) rfl (pa_cons (pv 0) (pa_cons (pv 1) (pa_cons (pv 2) (pa_cons (pv 3) (pa_cons (pe_ix (k_ixT K rfl) (pv 4) pe_int (fun _ _ => rfl)) (pa_cons (pe_ix (k_ixT K rfl) (pv 4) pe_int (fun _ _ => rfl)) pa_nil))))))))
    pss_nil) pss_nil)
    pss_nil) pss_nil)
    (pss_cons (ps_if (PW.pt (pw_and (pt_cmpR op_eq (pe_ix (k_ixT K rfl) (pv 4) pe_int (fun _ _ => rfl)) pe_str (nomark _)) (pw_and (pt_cmpR op_eq (pe_callB (k_len K rfl) (by rfl) T.len PySem.boot_len (pa_cons (pv 4) pa_nil)) pe_int (nomark _)) (pw_and1 (pt_val (pe_cal c_are_parts hr (by decide : (6 : Nat) ≤ 7) rfl (pa_cons (pv 2) (pa_cons (pe_ix (k_ixT K rfl) (pv 4) pe_int (fun _ _ => rfl)) pa_nil)))))))) (pss_cons (ps_ret (pe_cal c_held_pairs hr (by decide : (7 : Nat) ≤ 7) rfl (pa_cons pe_str (pa_cons (pv 0) (pa_cons (pv 1) (pa_cons (pv 2) (pa_cons (pv 3) (pa_cons (pe_ix (k_ixT K rfl) (pv 4) pe_int (fun _ _ => rfl)) pa_nil))))))))
    pss_nil) pss_nil)
    (pss_cons (ps_ret pe_non)
    pss_nil))))), ?_⟩)
  rintro ⟨k, ⟨t, b⟩, l, W, px⟩ ⟨h1, h2, h3, h4⟩
  dsimp only at h1 h2 h3 h4 ⊢
  match px, h4 with
  | .good (.all rows), h4 =>
    refine go_if (et_or (et_not (et_B (ev_cb (ea_cons (ev_var rfl) (ea_cons ev_val ea_nil)) (rc_isi td_tup (b := true) (by rfl))))) (fun _ => (et_or (et_test (ev_op (ev_cb (ea_cons (ev_var rfl) ea_nil) rc_lenT) ev_int rv_lt)) (fun _ => (et_not (et_B (ev_call (ea_cons (ev_op (ev_var rfl) ev_int (rv_ixT rfl)) ea_nil) ⟨.inl "all", trivial, rfl, rfl⟩))))))) (fun hb => ?_) (fun hb => ?_)
    · cases hb
    refine go_nextz ?_
    refine go_if (et_and (et_test (ev_op (ev_op (ev_var rfl) ev_int (rv_ixT rfl)) ev_str rv_eqS)) (fun _ => (et_test (ev_op (ev_cb (ea_cons (ev_var rfl) ea_nil) rc_lenT) ev_int rv_eqI)))) (fun hb => ?_) (fun hb => ?_)
    · refine go_ret ((ev_call (ea_cons ev_str (ea_cons (ev_var rfl) (ea_cons (ev_var rfl) (ea_cons (ev_var rfl) (ea_cons (ev_var rfl) (ea_cons ev_non ea_nil)))))) ⟨(none, k, (t, b), l, W), ⟨h1, h2, h3, fun ps e => nomatch e⟩, rfl, rfl⟩).is ?_)
      rfl
    · exact absurd hb (by rw [show decide (Pap.way (.all rows) = "all") = true from ds_t.1]; show ¬ (true && decide (((2 : Nat) : Int) = 2)) = false; decide)
  | .good (.ends ord es rows), h4 =>
    have h4 : OkOrd l ord ∧ OkEnds k t b l W ord es := h4
    refine go_if (et_or (et_not (et_B (ev_cb (ea_cons (ev_var rfl) (ea_cons ev_val ea_nil)) (rc_isi td_tup (b := true) (by rfl))))) (fun _ => (et_or (et_test (ev_op (ev_cb (ea_cons (ev_var rfl) ea_nil) rc_lenT) ev_int rv_lt)) (fun _ => (et_not (et_B (ev_call (ea_cons (ev_op (ev_var rfl) ev_int (rv_ixT rfl)) ea_nil) ⟨.inl "beginnings", trivial, rfl, rfl⟩))))))) (fun hb => ?_) (fun hb => ?_)
    · cases hb
    refine go_nextz ?_
    refine go_if (b := false) ((et_and (et_test (ev_op (ev_op (ev_var rfl) ev_int (rv_ixT rfl)) ev_str rv_eqS)) (fun _ => (et_test (ev_op (ev_cb (ea_cons (ev_var rfl) ea_nil) rc_lenT) ev_int rv_eqI)))).is (by rw [show decide (Pap.way (.ends ord es rows) = "all") = false from ds_t.2.1, Bool.false_and])) (fun hb => ?_) (fun hb => ?_)
    · cases hb
    refine go_nextz ?_
    refine go_if (b := true) ((et_and (et_test (ev_op (ev_op (ev_var rfl) ev_int (rv_ixT rfl)) ev_str rv_eqS)) (fun _ => (et_and (et_test (ev_op (ev_cb (ea_cons (ev_var rfl) ea_nil) rc_lenT) ev_int rv_eqI)) (fun _ => (et_B (ev_call (ea_cons (ev_var rfl) (ea_cons (ev_op (ev_var rfl) ev_int (rv_ixT rfl)) ea_nil)) ⟨(l, ord), ⟨h4.1, h2⟩, rfl, rfl⟩)))))).is (by rw [show decide (Pap.way (.ends ord es rows) = "beginnings") = true from ds_t.2.2.1]; rfl)) (fun hb => ?_) (fun hb => ?_)
    · refine go_assoc ?_
      refine go_if (et_B (ev_call (ea_cons (ev_var rfl) (ea_cons (ev_var rfl) (ea_cons (ev_var rfl) (ea_cons (ev_var rfl) (ea_cons (ev_op (ev_var rfl) ev_int (rv_ixT rfl)) (ea_cons (ev_op (ev_var rfl) ev_int (rv_ixT rfl)) ea_nil)))))) ⟨(k, (t, b), l, W, ord, es), ⟨h1, h2, h3, h4.1.s, h4.2⟩, rfl, rfl⟩)) (fun hb => ?_) (fun hb => ?_)
      · refine go_assoc (go_ret ((ev_call (ea_cons (ev_var rfl) (ea_cons (ev_var rfl) (ea_cons (ev_var rfl) (ea_cons (ev_var rfl) (ea_cons (ev_op (ev_var rfl) ev_int (rv_ixT rfl)) (ea_cons (ev_op (ev_var rfl) ev_int (rv_ixT rfl)) ea_nil)))))) ⟨(k, (t, b), l, W, ord, es), ⟨h1, h2, h3, h4.1.s, h4.2.n⟩, rfl, rfl⟩).weak fun v N p => ⟨_, List.Perm.refl _, p⟩))
      · cases hb
    · cases hb
  | .good (.parts ps rows), h4 =>
    have h4 : OkPs l ps := h4
    refine go_if (et_or (et_not (et_B (ev_cb (ea_cons (ev_var rfl) (ea_cons ev_val ea_nil)) (rc_isi td_tup (b := true) (by rfl))))) (fun _ => (et_or (et_test (ev_op (ev_cb (ea_cons (ev_var rfl) ea_nil) rc_lenT) ev_int rv_lt)) (fun _ => (et_not (et_B (ev_call (ea_cons (ev_op (ev_var rfl) ev_int (rv_ixT rfl)) ea_nil) ⟨.inl "parts", trivial, rfl, rfl⟩))))))) (fun hb => ?_) (fun hb => ?_)
    · cases hb
    refine go_nextz ?_
    refine go_if (b := false) ((et_and (et_test (ev_op (ev_op (ev_var rfl) ev_int (rv_ixT rfl)) ev_str rv_eqS)) (fun _ => (et_test (ev_op (ev_cb (ea_cons (ev_var rfl) ea_nil) rc_lenT) ev_int rv_eqI)))).is (by rw [show decide (Pap.way (.parts ps rows) = "all") = false from ds_t.2.2.2.1, Bool.false_and])) (fun hb => ?_) (fun hb => ?_)
    · cases hb
    refine go_nextz ?_
    refine go_if (b := false) ((et_and (b := false) (et_test (ev_op (ev_op (ev_var rfl) ev_int (rv_ixT rfl)) ev_str rv_eqS)) (fun hz => absurd hz (by rw [show decide (Pap.way (.parts ps rows) = "beginnings") = false from ds_t.2.2.2.2.1]; decide))).is (by rw [show decide (Pap.way (.parts ps rows) = "beginnings") = false from ds_t.2.2.2.2.1, Bool.false_and])) (fun hb => ?_) (fun hb => ?_)
    · cases hb
    refine go_nextz ?_
    refine go_if (b := true) ((et_and (et_test (ev_op (ev_op (ev_var rfl) ev_int (rv_ixT rfl)) ev_str rv_eqS)) (fun _ => (et_and (et_test (ev_op (ev_cb (ea_cons (ev_var rfl) ea_nil) rc_lenT) ev_int rv_eqI)) (fun _ => (et_B (ev_call (ea_cons (ev_var rfl) (ea_cons (ev_op (ev_var rfl) ev_int (rv_ixT rfl)) ea_nil)) ⟨(l, ps), ⟨h4, h2⟩, rfl, rfl⟩)))))).is (by rw [show decide (Pap.way (.parts ps rows) = "parts") = true from ds_t.2.2.2.2.2]; rfl)) (fun hb => ?_) (fun hb => ?_)
    · refine go_assoc (go_ret ((ev_call (ea_cons ev_str (ea_cons (ev_var rfl) (ea_cons (ev_var rfl) (ea_cons (ev_var rfl) (ea_cons (ev_var rfl) (ea_cons (ev_op (ev_var rfl) ev_int (rv_ixT rfl)) ea_nil)))))) ⟨(some ps, k, (t, b), l, W), ⟨h1, h2, h3, fun ps' e => by cases e; exact h4⟩, rfl, rfl⟩).is ?_))
      rfl
    · cases hb
  | .bad x p, h4 =>
    obtain ⟨n1, n2, n3⟩ := h4
    have hl : ((dS x :: p.tl).length : Int) < 2 ↔ False := by cases p <;> simp [Pap.tl]
    refine go_if (b := false) ((et_or (et_not (et_B (ev_cb (ea_cons (ev_var rfl) (ea_cons ev_val ea_nil)) (rc_isi td_tup (b := true) (by rfl))))) (fun _ => (et_or (et_test (ev_op (ev_cb (ea_cons (ev_var rfl) ea_nil) rc_lenT) ev_int rv_lt)) (fun _ => (et_not (et_B (ev_call (ea_cons (ev_op (ev_var rfl) ev_int (rv_ixT (Pap.at0 p))) ea_nil) ⟨.inl x, trivial, rfl, rfl⟩))))))).is (by rw [decide_eq_false (fun z => hl.mp z)]; rfl)) (fun hb => ?_) (fun hb => ?_)
    · cases hb
    refine go_nextz ?_
    refine go_if (b := false) ((et_and (et_test (ev_op (ev_op (ev_var rfl) ev_int (rv_ixT (Pap.at0 p))) ev_str rv_eqS)) (fun _ => (et_test (ev_op (ev_cb (ea_cons (ev_var rfl) ea_nil) rc_lenT) ev_int rv_eqI)))).is (by rw [decide_eq_false n1, Bool.false_and])) (fun hb => ?_) (fun hb => ?_)
    · cases hb
    refine go_nextz ?_
    refine go_if (b := false) ((et_and (b := false) (et_test (ev_op (ev_op (ev_var rfl) ev_int (rv_ixT (Pap.at0 p))) ev_str rv_eqS)) (fun hz => absurd (of_decide_eq_true hz) n2)).is (by rw [Bool.and_false])) (fun hb => ?_) (fun hb => ?_)
    · cases hb
    refine go_nextz ?_
    refine go_if (b := false) ((et_and (b := false) (et_test (ev_op (ev_op (ev_var rfl) ev_int (rv_ixT (Pap.at0 p))) ev_str rv_eqS)) (fun hz => absurd (of_decide_eq_true hz) n3)).is (by rw [Bool.and_false])) (fun hb => ?_) (fun hb => ?_)
    · cases hb
    exact go_nextz (go_ret ev_non)
  | .cut (.all rows), _ =>
    refine go_if (b := true) ((et_or (et_not (et_B (ev_cb (ea_cons (ev_var rfl) (ea_cons ev_val ea_nil)) (rc_isi td_tup (b := true) (by rfl))))) (fun _ => (et_or (b := false) (et_test (ev_op (ev_cb (ea_cons (ev_var rfl) ea_nil) rc_lenT) ev_int rv_lt)) (fun hz => absurd hz (by show ¬ decide (((1 : Nat) : Int) < 2) = false; decide))))).is (by rfl)) (fun hb => ?_) (fun hb => ?_)
    · exact go_assoc (go_ret ev_non)
    · cases hb
  | .cut (.ends ord es rows), _ =>
    refine go_if (b := true) ((et_or (et_not (et_B (ev_cb (ea_cons (ev_var rfl) (ea_cons ev_val ea_nil)) (rc_isi td_tup (b := true) (by rfl))))) (fun _ => (et_or (et_test (ev_op (ev_cb (ea_cons (ev_var rfl) ea_nil) rc_lenT) ev_int rv_lt)) (fun _ => (et_not (et_B (ev_call (ea_cons (ev_op (ev_var rfl) ev_int (rv_ixT rfl)) ea_nil) ⟨.inr (ord.map dS), trivial, rfl, rfl⟩))))))).is (by rfl)) (fun hb => ?_) (fun hb => ?_)
    · exact go_assoc (go_ret ev_non)
    · cases hb
  | .cut (.parts ps rows), _ =>
    refine go_if (b := true) ((et_or (et_not (et_B (ev_cb (ea_cons (ev_var rfl) (ea_cons ev_val ea_nil)) (rc_isi td_tup (b := true) (by rfl))))) (fun _ => (et_or (et_test (ev_op (ev_cb (ea_cons (ev_var rfl) ea_nil) rc_lenT) ev_int rv_lt)) (fun _ => (et_not (et_B (ev_call (ea_cons (ev_op (ev_var rfl) ev_int (rv_ixT rfl)) ea_nil) ⟨.inr (ps.map dLS), trivial, rfl, rfl⟩))))))).is (by rfl)) (fun hb => ?_) (fun hb => ?_)
    · exact go_assoc (go_ret ev_non)
    · cases hb
theorem rv_ex2 {α β : Type} {P : α → Prop} {Q : β → Prop} {D : α → Dn} {E : β → Dn} {r : R2} {z : Dn} (h : ∀ x y, P x → Q y → RvR r (D x) (E y) z) : RvR r (dEx P D) (dEx Q E) z := fun u v N H s ⟨x, px, hx⟩ ⟨y, qy, hy⟩ Q' q => h x y px qy u v N H s hx hy Q' q
theorem Pap.last (p : Pap) : atI (dS p.way :: p.tl) (((dS p.way :: p.tl).length : Int) - 1) = some (dL (p.rows.map dRow)) := by cases p <;> rfl
def f_shows_all := Fs (fun x : Kd × (Int × Int) × List (List Str) × Wt × List (Int × Int × (Int × Int)) × PapX => Lst x.2.1.1 x.2.1.2 ∧ OkLot x.2.2.1 ∧ OkW x.2.2.2.1 ∧ (x.2.2.2.1.map Prod.fst).Nodup ∧ OkX x.1 x.2.1.1 x.2.1.2 x.2.2.1 x.2.2.2.1 x.2.2.2.2.2 ∧ x.2.2.2.2.1.length ≤ 1000 ∧ ∀ p, x.2.2.2.2.2 = .good p → p.rows.length ≤ 1000)
  (fun x => [dK x.1, d2 x.2.1, dLot x.2.2.1, dWt x.2.2.2.1, dL (x.2.2.2.2.1.map dPr), x.2.2.2.2.2.d]) (fun x => dB (showsB x.1 x.2.1.1 x.2.1.2 x.2.2.1 x.2.2.2.1 x.2.2.2.2.1 x.2.2.2.2.2))
theorem JI_len {n : Nat} (h : n ≤ 13) : (JI n).length ≤ 169 := by
  unfold JI
  refine Nat.le_trans (fm_len (n := 13) fun a ha => ?_) ?_
  · rw [List.mem_range] at ha
    rw [List.length_map, List.length_range]; omega
  · rw [List.length_range]; omega
theorem sc_shows_all : FnScope ["kind", "least", "lot", "weights", "pairs", "paper", "some"] ["kind", "least", "lot", "weights", "pairs", "paper"] (defScope s_shows_all) := ⟨rfl, rfl, rfl, by decide +kernel, rfl, by decide +kernel, by decide +kernel⟩
theorem bd_shows_all : BindOk "shows_all" s_shows_all ["kind", "least", "lot", "weights", "pairs", "paper"] := fun _ _ _ _ _ _ us hl => match us, hl with | [_, _, _, _, _, _], _ => rfl
theorem ok_shows_all (T : Txt K mg kA signsZ kindsL) (F : DefF K mg "shows_all" s_shows_all) (c_check_asked : Cal P w K mg base 4 "check_asked" (spF f_check_asked)) (c_alike_of : Cal P w K mg base 4 "alike_of" (spF f_alike_of)) (c_with_common : Cal P w K mg base 3 "with_common" (spF f_with_common)) (c_is_list_of1 : Cal P w K mg base 3 "is_list_of" (spF (f_is_list_of (S1 aT aR aP)))) (c_held_of : Cal P w K mg base 8 "held_of" (spF f_held_of)) (m_is_row : mg "is_row" = some (.ref aR)) (m_is_pair : mg "is_pair" = some (.ref aP)) (ne1 : aR ≠ aT) (ne2 : aP ≠ aT) (ne3 : aP ≠ aR) : Cal P w K mg base 9 "shows_all" (spF f_shows_all) := by
  refine cal_fs F sc_shows_all bd_shows_all (fun z => by first | rfl | (cases z <;> rfl)) (fun f cdv A outer s H E hr => ⟨_, (pss_cons (ps_expr (pe_cal c_check_asked hr (by decide : (4 : Nat) ≤ 8) rfl (pa_cons (pv 0) (pa_cons (pv 1) (pa_cons (pv 2) (pa_cons (pv 3) pa_nil))))))
    (pss_cons (ps_set (i := 6) sc_shows_all.nd rfl (Or.inl rfl) (pe_cal c_held_of hr (by decide : (8 : Nat) ≤ 8) rfl (pa_cons (pv 0) (pa_cons (pv 1) (pa_cons (pv 2) (pa_cons (pv 3) (pa_cons (pv 5) pa_nil)))))))
    (pss_cons (ps_if (PW.pt (pw_or (pt_cmpR op_isNon (pv 6) pe_non (nomark _)) (pw_or (pt_not (pt_val (pe_cal c_is_list_of1 hr (by decide : (3 : Nat) ≤ 8) rfl (pa_cons (pe_ix (k_ixT K rfl) (pv 5) (pe_op op_sub (pe_callB (k_len K rfl) (by rfl) T.len PySem.boot_len (pa_cons (pv 5) pa_nil)) pe_int) (fun _ _ => rfl)) (pa_cons (pe_defv (k := 0) (sp := fun _ _ _ _ => True) m_is_row rfl) pa_nil))))) (pw_or1 (pt_not (pt_val (pe_cal c_is_list_of1 hr (by decide : (3 : Nat) ≤ 8) rfl (pa_cons (pv 4) (pa_cons (pe_defv (k := 0) (sp := fun _ _ _ _ => True) m_is_pair rfl) pa_nil))))))))) (pss_cons (ps_ret pe_bl)
    pss_nil) pss_nil)
    (pss_cons (ps_if (pt_cmpR (k_neD K rfl hr.units) (pe_callB (cr_sortedD rfl hr.u66) (by rfl) T.sorted (by decide +kernel) (pa_cons (pe_ix (k_ixT K rfl) (pv 5) (pe_op op_sub (pe_callB (k_len K rfl) (by rfl) T.len PySem.boot_len (pa_cons (pv 5) pa_nil)) pe_int) (fun _ _ => rfl)) pa_nil)) (pe_callB (cr_sortedD rfl hr.u66) (by rfl) T.sorted (by decide +kernel) (pa_cons (pe_cal c_with_common hr (by decide : (3 : Nat) ≤ 8) rfl (pa_cons (pv 2) (pa_cons (pv 3) (pa_cons (pv 6) pa_nil)))) pa_nil)) (nomark _)) (pss_cons (ps_ret pe_bl)
    pss_nil) pss_nil)
    (pss_cons (ps_ret (pe_cmpR (k_eqD K rfl hr.units) (pe_callB (cr_sortedD rfl hr.u66) (by rfl) T.sorted (by decide +kernel) (pa_cons (pv 4) pa_nil)) (pe_callB (cr_sortedD rfl hr.u66) (by rfl) T.sorted (by decide +kernel) (pa_cons (pe_cal c_alike_of hr (by decide : (4 : Nat) ≤ 8) rfl (pa_cons (pv 0) (pa_cons (pv 1) (pa_cons (pv 2) (pa_cons (pv 3) (pa_cons (pv 6) pa_nil)))))) pa_nil)) (nomark _)))
    pss_nil))))), ?_⟩)
  rintro ⟨k, ⟨t, b⟩, l, W, prs, px⟩ ⟨h1, h2, h3, h4, h5, h6, h7⟩
  dsimp only at h1 h2 h3 h4 h5 h6 h7 ⊢
  have hn := h2.n
  refine go_drop (ev_call (ea_cons (ev_var rfl) (ea_cons (ev_var rfl) (ea_cons (ev_var rfl) (ea_cons (ev_var rfl) ea_nil)))) ⟨(k, (t, b), l, W), ⟨h1, h2, h3, h4⟩, rfl, rfl⟩) ?_
  refine go_asg (ev_call (ea_cons (ev_var rfl) (ea_cons (ev_var rfl) (ea_cons (ev_var rfl) (ea_cons (ev_var rfl) (ea_cons (ev_var rfl) ea_nil))))) ⟨(k, (t, b), l, W, px), ⟨h1, h2, h3, h5⟩, rfl, rfl⟩) ?_
  have bad : ∀ px : PapX, heldR k t b l W px = dN → True := fun _ _ => trivial
  match px, h5, h7 with
  | .good p, h5, h7 =>
    have h7 : p.rows.length ≤ 1000 := h7 p rfl
    refine go_ex (i := 6) (P := fun ys : List (Nat × Nat) => ys.Perm (p.J k t b l W)) (D := fun ys => dL (ys.map dNN)) rfl fun ys hy => ?_
    have yl : ys.length ≤ 1000 := by
      have := hy.length_eq
      have := List.length_filter_le (p.kb k t b l W) (JI l.length)
      have := JI_len hn
      unfold Pap.J at *
      omega
    have ym : ∀ q ∈ ys, q.1 < l.length ∧ q.2 < l.length := fun q hq => by
      have hq := (List.mem_filter.mp (hy.mem_iff.mp hq)).1
      rw [mem_JI] at hq
      omega
    refine go_if (b := false) ((et_or (et_test (ev_op (ev_var rfl) ev_non rv_isNL)) (fun _ => (et_or (et_not (et_B (ev_call (ea_cons (ev_op (ev_var rfl) (ev_op (ev_cb (ea_cons (ev_var rfl) ea_nil) rc_lenT) ev_int rv_sub) (rv_ixT p.last)) (ea_cons ev_val ea_nil)) ⟨⟨p.rows.map dRow, aR, f_is_row⟩, ⟨s1_r ne1, fun e he => by
      obtain ⟨r, _, rfl⟩ := List.mem_map.mp he
      exact ⟨r, trivial, rfl, rfl⟩, by rw [List.length_map]; omega⟩, rfl, rfl⟩))) (fun _ => (et_not (et_B (ev_call (ea_cons (ev_var rfl) (ea_cons ev_val ea_nil)) ⟨⟨prs.map dPr, aP, f_is_pair⟩, ⟨s1_p ne2 ne3, fun e he => by
      obtain ⟨r, _, rfl⟩ := List.mem_map.mp he
      exact ⟨r, trivial, rfl, rfl⟩, by rw [List.length_map]; omega⟩, rfl, rfl⟩))))))).is rfl) (fun hb => ?_) (fun hb => ?_)
    · cases hb
    refine go_nextz ?_
    refine go_if (et_test (ev_op (ev_cb (ea_cons (ev_op (ev_var rfl) (ev_op (ev_cb (ea_cons (ev_var rfl) ea_nil) rc_lenT) ev_int rv_sub) (rv_ixT p.last)) ea_nil) (rc_sortedQ (δ := dRow) rd_row (by omega))) (ev_cb (ea_cons (ev_call (ea_cons (ev_var rfl) (ea_cons (ev_var rfl) (ea_cons (ev_var rfl) ea_nil))) ⟨(l, W, ys), ⟨h2, ym, yl⟩, rfl, rfl⟩) ea_nil) (rc_sortedQ (δ := dRow) rd_row (by rw [List.length_map]; show ys.length ≤ _; omega)))
      (rv_ex2 fun us zs hu hz => rv_neD (dd_rows us) (dd_rows zs) (shp_rows us) (shp_rows zs) ((eqv_lst eqv_row us zs).trans (srt_dec tk_row hu.2 hz.2 hu.1 hz.1))))) (fun hb => ?_) (fun hb => ?_)
    · refine go_assoc (go_ret (ev_bl.is ?_))
      have hb : ¬ p.rows.Perm (ys.map (rowOf l W)) := by simpa using hb
      show dB false = dB (decide _ && _)
      rw [decide_eq_false (fun z => hb (z.trans (hy.map _).symm)), Bool.false_and]
    · have hb : p.rows.Perm (ys.map (rowOf l W)) := by simpa using hb
      refine go_nextz ?_
      refine go_ret ((ev_op (ev_cb (ea_cons (ev_var rfl) ea_nil) (rc_sortedQ (δ := dPr) rd_pr (by omega))) (ev_cb (ea_cons (ev_call (ea_cons (ev_var rfl) (ea_cons (ev_var rfl) (ea_cons (ev_var rfl) (ea_cons (ev_var rfl) (ea_cons (ev_var rfl) ea_nil))))) ⟨(k, (t, b), l, W, ys), ⟨h1, h2, h3, ym, yl⟩, rfl, rfl⟩) ea_nil) (rc_sortedQ (δ := dPr) rd_pr (by rw [List.length_map]; have := List.length_filter_le (alikeF k t b l W) ys; show (ys.filter (alikeF k t b l W)).length ≤ _; omega)))
        (rv_ex2 fun us zs hu hz => rv_eqD (dd_prs us) (dd_prs zs) (shp_prs us) (shp_prs zs) ((eqv_lst eqv_pr us zs).trans (srt_dec tk_pr hu.2 hz.2 hu.1 hz.1)))).is ?_)
      show dB _ = dB (decide _ && decide _)
      rw [decide_eq_true (hb.trans (hy.map _)), Bool.true_and]
      congr 1
      rw [decide_eq_decide]
      exact ⟨fun z => z.trans ((hy.filter _).map _), fun z => z.trans ((hy.filter _).map _).symm⟩
  | .bad x p, _, _ =>
    refine go_if (b := true) ((et_or (b := false) (et_test (ev_op (ev_var rfl) ev_non rv_isN)) (fun hz => nomatch hz)).is rfl) (fun hb => ?_) (fun hb => ?_)
    · exact go_assoc (go_ret ev_bl)
    · cases hb
  | .cut p, _, _ =>
    refine go_if (b := true) ((et_or (b := false) (et_test (ev_op (ev_var rfl) ev_non rv_isN)) (fun hz => nomatch hz)).is rfl) (fun hb => ?_) (fun hb => ?_)
    · exact go_assoc (go_ret ev_bl)
    · cases hb
end
end Mu
/-! The law's makers: lot, weights, kind, least. -/
namespace Mu
open PySem PySem.Spec PyProof.Rows L2
local macro_rules | `(tactic| walk_at "mu le") => `(tactic| (repeat (first | exact trivial | refine ⟨by first | exact Or.inr rfl | exact Or.inl rfl, ?_⟩)))
abbrev dIs (xs : List Int) : Dn := dL (xs.map dI)
def cellAt (s : List Int) (k : Nat) : Int := if k < s.length then gt s k else 0
def downs (c : Int) (k : Nat) : Int := (List.range k).foldl (fun c _ => c / 1000000) c
def mix1 (c : Int) (k : Nat) : Int := (c % 1000003 + (k : Int) * (k : Int) * 7919 + (k : Int)) * 48271 % 2147483629
def mix2 (c : Int) (k : Nat) : Int := mix1 c k * mix1 c k % 2147483587
def mixF (c : Int) (k : Nat) : Int := if 10 ^ 18 ≤ c then downs c k % 1000000 else mix2 c k * (mix2 c k + 2) % 2147483579 / 7
theorem mixF_bd (c : Int) (k : Nat) : 0 ≤ mixF c k ∧ mixF c k < 306783369 := by
  unfold mixF
  split
  · generalize downs c k = z; omega
  · generalize mix2 c k * (mix2 c k + 2) = z; omega
theorem mixF_mod (c : Int) (k : Nat) {n : Int} (h : 0 < n) : 0 ≤ mixF c k % n ∧ mixF c k % n < n := ⟨Int.emod_nonneg _ (by omega), Int.emod_lt_of_pos _ h⟩
theorem atI_int {α : Type} [Inhabited α] {xs : List α} {i : Int} (δ : α → Dn) (h0 : 0 ≤ i) (h : i < xs.length) : atI (xs.map δ) i = some (δ (gt xs i.toNat)) := by
  have e : i = ((i.toNat : Nat) : Int) := by omega
  have := atI_gt (xs := xs) (i := i.toNat) δ (by omega)
  rwa [← e] at this
def tstep (p : List Nat × Int) (k : Nat) : List Nat × Int := (p.1.take (p.2 % ((k : Int) + 1)).toNat ++ [k] ++ p.1.drop (p.2 % ((k : Int) + 1)).toNat, p.2 / ((k : Int) + 1))
def trow (n : Int) (m : Nat) : List Nat := ((List.range m).foldl tstep ([], n)).1
theorem ins_perm {α : Type} (xs : List α) (x : α) (i : Nat) : (xs.take i ++ [x] ++ xs.drop i).Perm (xs ++ [x]) := by
  have h1 : (xs.take i ++ [x] ++ xs.drop i).Perm ([x] ++ (xs.take i ++ xs.drop i)) := by
    rw [List.append_assoc]
    exact List.perm_middle
  rw [List.take_append_drop] at h1
  exact h1.trans List.perm_append_comm
theorem trow_perm (n : Int) (m : Nat) : (trow n m).Perm (List.range m) := by
  unfold trow
  induction m with
  | zero => exact List.Perm.refl _
  | succ m ih =>
    rw [List.range_succ, List.foldl_append]
    exact (ins_perm _ _ _).trans (ih.append_right [m])
theorem trow_len (n : Int) (m : Nat) : (trow n m).length = m := by rw [(trow_perm n m).length_eq, List.length_range]
theorem tstep_len (pre : List Nat) (q : List Nat × Int) : (pre.foldl tstep q).1.length = q.1.length + pre.length := by
  induction pre generalizing q with
  | nil => rfl
  | cons x pre ih =>
    rw [List.foldl_cons, ih, List.length_cons]
    have := (ins_perm q.1 x (q.2 % ((x : Int) + 1)).toNat).length_eq
    have e : (tstep q x).1.length = q.1.length + 1 := this.trans (by rw [List.length_append]; rfl)
    omega
def shuf {α : Type} [Inhabited α] (xs : List α) (n : Int) : List α := (trow n xs.length).map (gt xs)
theorem shuf_perm {α : Type} [Inhabited α] (xs : List α) (n : Int) : (shuf xs n).Perm xs := by
  have h := (trow_perm n xs.length).map (gt xs)
  have e := map_gt xs fun x => x
  rw [List.map_id'' (fun _ => rfl)] at e
  rw [e] at h
  exact h
abbrev namesL : List Str := ["a", "b", "ab", "c", "a.1", "b0", "z", "9", ".", "d", "e", "f", "g", "h", "i", "j"]
def okw (x : Str) : Bool := decide (1 ≤ x.length) && decide (x.length ≤ 30) && x.cps.toList.all fun c => decide (c ∈ signsZ.cps.toList)
theorem okw_ok {x : Str} (h : okw x = true) : OkWord x := by
  unfold okw at h
  rw [Bool.and_eq_true, Bool.and_eq_true] at h
  exact ⟨of_decide_eq_true h.1.1, of_decide_eq_true h.1.2, fun c hc => of_decide_eq_true (List.all_eq_true.mp h.2 c hc)⟩
theorem names_ok : ∀ x ∈ namesL ++ (["x", "y."] : List Str), OkWord x := fun x hx => okw_ok ((by decide +kernel : ∀ x ∈ namesL ++ (["x", "y."] : List Str), okw x = true) x hx)
theorem names_nd : (namesL ++ (["x", "y."] : List Str)).Nodup := by decide +kernel
theorem namesL_nd : namesL.Nodup := (List.nodup_append.mp names_nd).1
/-- a set of names -/
structure NmS (s : List Str) : Prop where
  nd : s.Nodup
  sub : ∀ x ∈ s, x ∈ namesL
theorem nd_len {α : Type} [DecidableEq α] : ∀ {s u : List α}, s.Nodup → (∀ x ∈ s, x ∈ u) → s.length ≤ u.length
  | [], _, _, _ => Nat.zero_le _
  | x :: s, u, h, sub => by
    rw [List.nodup_cons] at h
    have hx := sub x List.mem_cons_self
    have h1 := nd_len (u := u.erase x) h.2 fun y hy => (List.mem_erase_of_ne (fun (e : y = x) => h.1 (e ▸ hy))).mpr (sub y (List.mem_cons_of_mem _ hy))
    rw [List.length_erase_of_mem hx] at h1
    have := List.length_pos_of_mem hx
    rw [List.length_cons]
    omega
theorem NmS.ok {s : List Str} (h : NmS s) : OkS s := ⟨h.nd, fun x hx => names_ok x (List.mem_append_left _ (h.sub x hx)), Nat.le_trans (nd_len h.nd h.sub) (by decide)⟩
structure NmLot (l : List (List Str)) : Prop where
  n : l.length ≤ 13
  s : ∀ s ∈ l, NmS s
theorem NmLot.ok {l : List (List Str)} (h : NmLot l) : OkLot l := ⟨h.n, fun s hs => (h.s s hs).ok⟩
def namesF (s : List Int) : List Str := namesL.take (3 + mixF (cellAt s 0) 0 % 14).toNat
theorem namesF_len (s : List Int) : 3 ≤ (namesF s).length ∧ (namesF s).length ≤ 16 := by
  unfold namesF
  have := mixF_mod (cellAt s 0) 0 (n := 14) (by decide)
  rw [List.length_take]
  show 3 ≤ min _ 16 ∧ min _ 16 ≤ 16
  omega
theorem namesF_ok (s : List Int) : NmS (namesF s) := ⟨namesL_nd.sublist (List.take_sublist _ _), fun x hx => (List.take_sublist _ _).subset hx⟩
def some0 (nm : List Str) (c : Int) : List Str := ((List.range nm.length).filter fun i => decide (mixF c (1 + i) % 8 < gt [1, 3, 4, 6] (mixF c 0 % 4).toNat)).map (gt nm)
def togg (nm : List Str) (c : Int) (s : List Str) (k : Nat) : List Str := if gt nm (mixF c (20 + k) % nm.length).toNat ∈ s then s.erase (gt nm (mixF c (20 + k) % nm.length).toNat) else s ++ [gt nm (mixF c (20 + k) % nm.length).toNat]
def fromAhead (c : Int) (l : List (List Str)) : Bool := !l.isEmpty && decide (mixF c 0 / 4 % 2 = 1)
def some1 (nm : List Str) (c : Int) (l : List (List Str)) : List Str := (List.range (mixF c 0 / 64 % 3).toNat).foldl (togg nm c) (gt l (mixF c 0 / 8 % l.length).toNat)
def setF (nm : List Str) (c : Int) (l : List (List Str)) : List Str := shuf (if fromAhead c l then some1 nm c l else some0 nm c) (mixF c 24)
theorem gt_inj {α : Type} [Inhabited α] {xs : List α} (h : xs.Nodup) {i j : Nat} (hi : i < xs.length) (hj : j < xs.length) (e : gt xs i = gt xs j) : i = j := by
  have h1 : xs[i] = xs[j] := by
    have a := gt_lt hi
    have b := gt_lt hj
    rw [List.getElem?_eq_getElem hi] at a
    rw [List.getElem?_eq_getElem hj] at b
    rw [Option.some.inj a, Option.some.inj b, e]
  exact (List.getElem_inj h).mp h1
theorem nd_gt {α : Type} [Inhabited α] {xs : List α} (h : xs.Nodup) : ∀ {is : List Nat}, is.Nodup → (∀ i ∈ is, i < xs.length) → (is.map (gt xs)).Nodup
  | [], _, _ => List.nodup_nil
  | i :: is, hn, hb => by
    rw [List.nodup_cons] at hn
    rw [List.map_cons, List.nodup_cons]
    refine ⟨fun hm => ?_, nd_gt h hn.2 fun j hj => hb j (List.mem_cons_of_mem _ hj)⟩
    obtain ⟨j, hj, e⟩ := List.mem_map.mp hm
    have := gt_inj h (hb j (List.mem_cons_of_mem _ hj)) (hb i List.mem_cons_self) e
    subst this
    exact hn.1 hj
theorem some0_ok {nm : List Str} (h : NmS nm) (c : Int) : NmS (some0 nm c) := by
  have hb : ∀ i ∈ (List.range nm.length).filter fun i => decide (mixF c (1 + i) % 8 < gt [1, 3, 4, 6] (mixF c 0 % 4).toNat), i < nm.length := fun i hi => List.mem_range.mp (List.mem_filter.mp hi).1
  refine ⟨nd_gt h.nd (List.nodup_range.filter _) hb, fun x hx => ?_⟩
  obtain ⟨i, hi, rfl⟩ := List.mem_map.mp hx
  exact h.sub _ (gt_mem (hb i hi))
theorem togg_ok {nm : List Str} (h : NmS nm) (hl : 0 < nm.length) (c : Int) (k : Nat) {s : List Str} (hs : NmS s) : NmS (togg nm c s k) := by
  have hm := mixF_mod c (20 + k) (n := nm.length) (by omega)
  have hx : gt nm (mixF c (20 + k) % nm.length).toNat ∈ nm := gt_mem (by omega)
  unfold togg
  split
  · exact ⟨hs.nd.erase _, fun x hx => hs.sub x (List.mem_of_mem_erase hx)⟩
  · rename_i hn
    refine ⟨List.nodup_append.mpr ⟨hs.nd, List.nodup_cons.mpr ⟨List.not_mem_nil, List.nodup_nil⟩, fun a ha b hb e => ?_⟩, fun x hx' => ?_⟩
    · rw [List.mem_singleton] at hb
      subst hb
      exact hn (e ▸ ha)
    · rcases List.mem_append.mp hx' with q | q
      · exact hs.sub x q
      · rw [List.mem_singleton] at q
        subst q
        exact h.sub _ hx
theorem fold_inv {α β : Type} {P : β → Prop} {f : β → α → β} (hf : ∀ b a, P b → P (f b a)) : ∀ {xs : List α} {b : β}, P b → P (xs.foldl f b)
  | [], _, h => h
  | x :: xs, b, h => fold_inv hf (xs := xs) (hf b x h)
theorem setF_ok {nm : List Str} (h : NmS nm) (hl : 0 < nm.length) (c : Int) {l : List (List Str)} (ho : ∀ s ∈ l, NmS s) : NmS (setF nm c l) := by
  have base : NmS (if fromAhead c l then some1 nm c l else some0 nm c) := by
    split
    · rename_i hf
      have hl2 : 0 < l.length := by
        unfold fromAhead at hf
        cases l with
        | nil => cases hf
        | cons _ _ => exact Nat.succ_pos _
      refine fold_inv (fun b a hb => togg_ok h hl c a hb) (ho _ (gt_mem ?_))
      have h1 := mixF_bd c 0
      have h2 := Int.emod_lt_of_pos (mixF c 0 / 8) (by omega : (0 : Int) < l.length)
      have h3 := Int.emod_nonneg (mixF c 0 / 8) (by omega : (l.length : Int) ≠ 0)
      omega
    · exact some0_ok h c
  have p := shuf_perm (if fromAhead c l then some1 nm c l else some0 nm c) (mixF c 24)
  exact ⟨p.nodup_iff.mpr base.nd, fun x hx => base.sub x (p.mem_iff.mp hx)⟩
def manyF (s : List Int) : Int := gt [mixF (cellAt s 0) 1 % 9, 11 + mixF (cellAt s 0) 1 / 144 % 3] (if decide (mixF (cellAt s 0) 1 / 9 % 16 = 1) then (1 : Int) else 0).toNat
theorem manyF_bd (s : List Int) : 0 ≤ manyF s ∧ manyF s ≤ 13 := by
  unfold manyF
  split
  · show 0 ≤ 11 + mixF (cellAt s 0) 1 / 144 % 3 ∧ 11 + mixF (cellAt s 0) 1 / 144 % 3 ≤ 13
    omega
  · show 0 ≤ mixF (cellAt s 0) 1 % 9 ∧ mixF (cellAt s 0) 1 % 9 ≤ 13
    omega
def lstep (s : List Int) (l : List (List Str)) (k : Nat) : List (List Str) := l ++ [setF (namesF s) (cellAt s (2 + k)) l]
def lotF (s : List Int) : List (List Str) := (List.range (manyF s).toNat).foldl (lstep s) []
theorem lstep_len (s : List Int) (pre : List Nat) (l : List (List Str)) : (pre.foldl (lstep s) l).length = l.length + pre.length := by
  induction pre generalizing l with
  | nil => rfl
  | cons x pre ih =>
    rw [List.foldl_cons, ih, List.length_cons]
    show (l ++ [_]).length + _ = _
    rw [List.length_append]
    show l.length + 1 + _ = _
    omega
theorem lotF_sets (s : List Int) (pre : List Nat) : ∀ u ∈ pre.foldl (lstep s) [], NmS u := by
  refine fold_inv (P := fun l : List (List Str) => ∀ u ∈ l, NmS u) (fun l k h u hu => ?_) (fun _ h => nomatch h)
  rcases List.mem_append.mp hu with q | q
  · exact h u q
  · rw [List.mem_singleton] at q
    subst q
    exact setF_ok (namesF_ok s) (by have := namesF_len s; omega) _ h
theorem lotF_ok (s : List Int) : NmLot (lotF s) := ⟨by
  unfold lotF
  rw [lstep_len, List.length_range]
  have := manyF_bd s
  show 0 + _ ≤ 13
  omega, lotF_sets s _⟩
section
variable {P : Program} {w : World} {K : PySem.W.Frag} {mg : Str → Option Value} {base : Heap} {kA : Addr}
def f_law_cell_at := Fs (fun _ : List Int × Nat => True) (fun x => [dIs x.1, dI (x.2 : Int)]) (fun x => dI (cellAt x.1 x.2))
theorem sc_law_cell_at : FnScope ["_law_script", "_law_k"] ["_law_script", "_law_k"] (defScope s_law_cell_at) := ⟨rfl, rfl, rfl, by decide +kernel, rfl, by decide +kernel, by decide +kernel⟩
theorem bd_law_cell_at : BindOk "_law_cell_at" s_law_cell_at ["_law_script", "_law_k"] := fun _ _ _ _ _ _ us hl => match us, hl with | [_, _], _ => rfl
theorem ok_law_cell_at (T : Txt K mg kA signsZ kindsL) (F : DefF K mg "_law_cell_at" s_law_cell_at) : Cal P w K mg base 1 "_law_cell_at" (spF f_law_cell_at) := by
  refine cal_fs F sc_law_cell_at bd_law_cell_at (fun z => by first | rfl | (cases z <;> rfl)) (fun f cdv A outer s H E hr => ⟨_, (pss_cons (ps_if (pt_cmpR op_lt (pv 1) (pe_callB (k_len K rfl) (by rfl) T.len PySem.boot_len (pa_cons (pv 0) pa_nil)) (nomark _)) (pss_cons (ps_ret (pe_ix (k_ixL K rfl) (pv 0) (pv 1) (fun _ _ => rfl)))
    pss_nil) pss_nil)
    (pss_cons (ps_ret pe_int)
    pss_nil)), ?_⟩)
  rintro ⟨s, k⟩ -
  dsimp only
  refine go_if (et_test (ev_op (ev_var rfl) (ev_cb (ea_cons (ev_var rfl) ea_nil) rc_len) rv_lt)) (fun hb => ?_) (fun hb => ?_)
  · have hb := of_decide_eq_true hb
    rw [List.length_map] at hb
    have hb : k < s.length := by omega
    refine go_assoc (go_ret ((ev_op (ev_var rfl) (ev_var rfl) (rv_ixL (atI_gt dI hb))).is ?_))
    rw [cellAt, if_pos hb]
  · have hb := of_decide_eq_false hb
    rw [List.length_map] at hb
    refine go_nextz (go_ret (ev_int.is ?_))
    rw [cellAt, if_neg (by omega)]
def f_law_mix := Fs (fun x : Int × Nat => x.2 ≤ 1000) (fun x => [dI x.1, dI (x.2 : Int)]) (fun x => dI (mixF x.1 x.2))
theorem nat_bt {k : Nat} (h : k ≤ 1000) : Bt 4 (k : Int) := ⟨by omega, by omega⟩
theorem sc_law_mix : FnScope ["_law_cell", "_law_k", "_law_again", "_law_number"] ["_law_cell", "_law_k"] (defScope s_law_mix) := ⟨rfl, rfl, rfl, by decide +kernel, rfl, by decide +kernel, by decide +kernel⟩
theorem bd_law_mix : BindOk "_law_mix" s_law_mix ["_law_cell", "_law_k"] := fun _ _ _ _ _ _ us hl => match us, hl with | [_, _], _ => rfl
theorem ok_law_mix (T : Txt K mg kA signsZ kindsL) (F : DefF K mg "_law_mix" s_law_mix) : Cal P w K mg base 1 "_law_mix" (spF f_law_mix) := by
  refine cal_fs F sc_law_mix bd_law_mix (fun z => by first | rfl | (cases z <;> rfl)) (fun f cdv A outer s H E hr => ⟨_, (pss_cons (ps_if (pt_cmpR op_ge (pv 0) (pe_op op_powW pe_int pe_int) (nomark _)) (pss_cons (ps_for PassesOwn.never rfl (pi_range1 rfl T.range (pa_cons (pv 1) pa_nil)) (pg_name (i := 2) sc_law_mix.nd rfl (Or.inl rfl)) (pss_cons (ps_set (i := 0) sc_law_mix.nd rfl (Or.inl rfl) (pe_op op_fdivW (pv 0) (pe_op op_powW pe_int pe_int)))
    pss_nil))
    (pss_cons (ps_ret (pe_op op_mod (pv 0) (pe_op op_powW pe_int pe_int)))
    pss_nil)) pss_nil)
    (pss_cons (ps_set (i := 3) sc_law_mix.nd rfl (Or.inl rfl) (pe_op op_mod (pe_op op_mulW (pe_op op_add (pe_op op_add (pe_op op_mod (pv 0) pe_int) (pe_op op_mulW (pe_op op_mulW (pv 1) (pv 1)) pe_int)) (pv 1)) pe_int) pe_int))
    (pss_cons (ps_set (i := 3) sc_law_mix.nd rfl (Or.inl rfl) (pe_op op_mod (pe_op op_mulW (pv 3) (pv 3)) pe_int))
    (pss_cons (ps_ret (pe_op op_fdivW (pe_op op_mod (pe_op op_mulW (pv 3) (pe_op op_add (pv 3) pe_int)) pe_int) pe_int))
    pss_nil)))), ?_⟩)
  rintro ⟨c, k⟩ h
  dsimp only at h ⊢
  refine go_if (b := decide (10 ^ 18 ≤ c)) (et_test (ev_op (ev_var rfl) (ev_op ev_int ev_int (rv_pow (by unfold CPowW; decide +kernel))) rv_ge)) (fun hb => ?_) (fun hb => ?_)
  · have hb := of_decide_eq_true hb
    refine go_assoc ?_
    refine go_for _ _ _ _ (fun pre => [some (dI (pre.foldl (fun c _ => c / 1000000) c)), some (dI (k : Int)), none, none]) (fun pre => none) (wi_range1N (n := k) (ea_cons (ev_var rfl) ea_nil) (by omega)) (fun _ => tg_name) (by walk_at "mu le") rfl (fun pre i post e => ?_) ?_ ok_n
    · refine go_asg ((ev_op (ev_var rfl) (ev_op ev_int ev_int (rv_pow (by unfold CPowW; decide +kernel))) (rv_fdiv (Bt.cd (n := 7) ⟨by decide, by decide⟩ (by decide)))).is (show dI (_ / (10 ^ (6 : Int).toNat)) = dI (_ / 1000000) from rfl)) ?_
      rw [List.foldl_append]
      exact go_next (by walk_at "mu le")
    · refine go_assoc (go_ret ((ev_op (ev_var rfl) (ev_op ev_int ev_int (rv_pow (by unfold CPowW; decide +kernel))) (rv_mod (by decide))).is ?_))
      rw [mixF, if_pos hb]
      rfl
  · have hb := of_decide_eq_false hb
    have kb := nat_bt h
    have m1 : Bt 10 (mix1 c k) := ⟨Int.emod_nonneg _ (by decide), Int.lt_of_lt_of_le (Int.emod_lt_of_pos _ (by decide)) (by decide)⟩
    have m2 : Bt 10 (mix2 c k) := ⟨Int.emod_nonneg _ (by decide), Int.lt_of_lt_of_le (Int.emod_lt_of_pos _ (by decide)) (by decide)⟩
    have b0 : Bt 13 (c % 1000003 + (k : Int) * (k : Int) * 7919 + (k : Int)) := by
      have h1 : (0 : Int) ≤ c % 1000003 := Int.emod_nonneg _ (by decide)
      have h2 : c % 1000003 < 1000003 := Int.emod_lt_of_pos _ (by decide)
      have h3 := kb.mul kb
      have h4 : (k : Int) * (k : Int) ≤ 1000000 := by
        have := Int.mul_le_mul (a := (k : Int)) (b := k) (c := 1000) (d := 1000) (by omega) (by omega) (by omega) (by omega)
        omega
      have h5 := h3.1
      exact ⟨by omega, by omega⟩
    refine go_nextz ?_
    refine go_asg (d := dI (mix1 c k)) (ev_op (ev_op (ev_op (ev_op (ev_op (ev_var rfl) ev_int (rv_mod (by decide))) (ev_op (ev_op (ev_var rfl) (ev_var rfl) (rv_mul (kb.cm kb))) ev_int (rv_mul ((kb.mul kb).cm (n := 4) ⟨by decide, by decide⟩))) rv_add) (ev_var rfl) rv_add) ev_int (rv_mul (b0.cm (n := 5) ⟨by decide, by decide⟩))) ev_int (rv_mod (by decide))) ?_
    refine go_asg (d := dI (mix2 c k)) (ev_op (ev_op (ev_var rfl) (ev_var rfl) (rv_mul (m1.cm m1))) ev_int (rv_mod (by decide))) ?_
    refine go_ret ((ev_op (ev_op (ev_op (ev_var rfl) (ev_op (ev_var rfl) ev_int rv_add) (rv_mul (m2.cm (n := 11) ⟨by have := m2.1; omega, by have := m2.2; omega⟩))) ev_int (rv_mod (by decide))) ev_int (rv_fdiv (Bt.cd (n := 1) ⟨by decide, by decide⟩ (by decide)))).is ?_)
    rw [mixF, if_neg hb]
def f_law_turned_row := Fs (fun x : Int × Nat => x.2 ≤ 1000) (fun x => [dI x.1, dI (x.2 : Int)]) (fun x => dL ((trow x.1 x.2).map fun i : Nat => dI (i : Int)))
theorem sc_law_turned_row : FnScope ["_law_number", "_law_many", "_law_told", "_law_k"] ["_law_number", "_law_many"] (defScope s_law_turned_row) := ⟨rfl, rfl, rfl, by decide +kernel, rfl, by decide +kernel, by decide +kernel⟩
theorem bd_law_turned_row : BindOk "_law_turned_row" s_law_turned_row ["_law_number", "_law_many"] := fun _ _ _ _ _ _ us hl => match us, hl with | [_, _], _ => rfl
theorem ok_law_turned_row (T : Txt K mg kA signsZ kindsL) (F : DefF K mg "_law_turned_row" s_law_turned_row) : Cal P w K mg base 1 "_law_turned_row" (spF f_law_turned_row) := by
  refine cal_fs F sc_law_turned_row bd_law_turned_row (fun z => by first | rfl | (cases z <;> rfl)) (fun f cdv A outer s H E hr => ⟨_, (pss_cons (ps_set (i := 2) sc_law_turned_row.nd rfl (Or.inl rfl) (pe_lst pa_nil))
    (pss_cons (ps_for PassesOwn.never rfl (pi_range1 rfl T.range (pa_cons (pv 1) pa_nil)) (pg_name (i := 3) sc_law_turned_row.nd rfl (Or.inl rfl)) (pss_cons (ps_expr (pe_bm PySem.F.plainAttrs_list PySem.F.slot_list_insert PySem.F.type_list_insert mt_insert (pv 2) (pa_cons (pe_op op_mod (pv 0) (pe_op op_add (pv 3) pe_int)) (pa_cons (pv 3) pa_nil))))
    (pss_cons (ps_set (i := 0) sc_law_turned_row.nd rfl (Or.inl rfl) (pe_op op_fdivW (pv 0) (pe_op op_add (pv 3) pe_int)))
    pss_nil)))
    (pss_cons (ps_ret (pv 2))
    pss_nil))), ?_⟩)
  rintro ⟨n, m⟩ h
  dsimp only at h ⊢
  refine go_asgN (en_lst ea_nil) ?_
  refine go_for _ _ _ _ (fun pre => [some (dI (pre.foldl tstep ([], n)).2), some (dI (m : Int)), none, none]) (fun pre => some (oL 2 ((pre.foldl tstep ([], n)).1.map fun i : Nat => dI (i : Int)))) (wi_range1N (n := m) (ea_cons (ev_var rfl) ea_nil) (by omega)) (fun _ => tg_name) (by walk_at "mu le") rfl (fun pre i post e => ?_) ?_ ok_k
  · obtain ⟨e1, e2⟩ := range_len e
    have kb : (0 : Int) < (i : Int) + 1 := by omega
    have p0 := Int.emod_nonneg (pre.foldl tstep ([], n)).2 (by omega : (i : Int) + 1 ≠ 0)
    have p1 := Int.emod_lt_of_pos (pre.foldl tstep ([], n)).2 kb
    refine go_insert (ev_op (ev_var rfl) (ev_op (ev_var rfl) ev_int rv_add) (rv_mod kb)) (ev_var rfl) ?_ ⟨p0, by omega⟩ ?_
    · rw [List.length_map, tstep_len]
      show 0 + _ < _
      omega
    · refine go_asg (ev_op (ev_var rfl) (ev_op (ev_var rfl) ev_int rv_add) (rv_fdiv (Bt.cd (n := 5) ⟨by omega, by omega⟩ kb))) ?_
      rw [List.foldl_append]
      refine go_nextO (by walk_at "mu le") ?_
      show _ = some (oL 2 ((tstep _ i).1.map _))
      unfold tstep
      dsimp only
      rw [List.map_append, List.map_append, List.map_take, List.map_drop]
      rfl
  · exact go_tell (go_ret (ev_var rfl))
def f_law_names := Fs (fun _ : List Int => True) (fun s => [dIs s]) (fun s => dLS (namesF s))
theorem sc_law_names : FnScope ["_law_script", "_law_names_here"] ["_law_script"] (defScope s_law_names) := ⟨rfl, rfl, rfl, by decide +kernel, rfl, by decide +kernel, by decide +kernel⟩
theorem bd_law_names : BindOk "_law_names" s_law_names ["_law_script"] := fun _ _ _ _ _ _ us hl => match us, hl with | [_], _ => rfl
theorem ok_law_names (T : Txt K mg kA signsZ kindsL) (F : DefF K mg "_law_names" s_law_names) (c_law_cell_at : Cal P w K mg base 1 "_law_cell_at" (spF f_law_cell_at)) (c_law_mix : Cal P w K mg base 1 "_law_mix" (spF f_law_mix)) : Cal P w K mg base 2 "_law_names" (spF f_law_names) := by
  refine cal_fs F sc_law_names bd_law_names (fun z => by first | rfl | (cases z <;> rfl)) (fun f cdv A outer s H E hr => ⟨_, (pss_cons (ps_set (i := 1) sc_law_names.nd rfl (Or.inl rfl) (pe_lst (pa_cons pe_str (pa_cons pe_str (pa_cons pe_str (pa_cons pe_str (pa_cons pe_str (pa_cons pe_str (pa_cons pe_str (pa_cons pe_str (pa_cons pe_str (pa_cons pe_str (pa_cons pe_str (pa_cons pe_str (pa_cons pe_str (pa_cons pe_str (pa_cons pe_str (pa_cons pe_str pa_nil))))))))))))))))))
    (pss_cons (ps_ret (pe_slice (k_slL K rfl) (pv 1) po_none (po_some (pe_op op_add pe_int (pe_op op_mod (pe_cal c_law_mix hr (by decide : (1 : Nat) ≤ 1) rfl (pa_cons (pe_cal c_law_cell_at hr (by decide : (1 : Nat) ≤ 1) rfl (pa_cons (pv 0) (pa_cons pe_int pa_nil))) (pa_cons pe_int pa_nil))) pe_int)))))
    pss_nil)), ?_⟩)
  rintro s -
  have hm := mixF_mod (cellAt s 0) 0 (n := 14) (by decide)
  refine go_asgN (en_lst (ea_cons ev_str (ea_cons ev_str (ea_cons ev_str (ea_cons ev_str (ea_cons ev_str (ea_cons ev_str (ea_cons ev_str (ea_cons ev_str (ea_cons ev_str (ea_cons ev_str (ea_cons ev_str (ea_cons ev_str (ea_cons ev_str (ea_cons ev_str (ea_cons ev_str (ea_cons ev_str ea_nil))))))))))))))))) ?_
  refine go_tell ?_
  refine go_ret ((en_slL (ev_var rfl) eo_none (eo_some (ev_op ev_int (ev_op (ev_call (ea_cons (ev_call (ea_cons (ev_var rfl) (ea_cons ev_int ea_nil)) ⟨(s, 0), trivial, rfl, rfl⟩) (ea_cons ev_int ea_nil)) ⟨(cellAt s 0, 0), Nat.zero_le _, rfl, rfl⟩) ev_int (rv_mod (by decide))) rv_add))).ev.is ?_)
  rw [cut_to (by show 0 ≤ 3 + mixF (cellAt s 0) 0 % 14; omega)]
  exact congrArg dL (List.map_take (f := dS) (l := namesL)).symm
def f_law_kind := Fs (fun _ : List Int => True) (fun s => [dIs s]) (fun _ => dEx (fun _ : Kd => True) dK)
theorem kd_at {i : Nat} (h : i < 5) : ∃ k : Kd, gt kindsL i = k.s := by
  match i, h with
  | 0, _ => exact ⟨.both, rfl⟩
  | 1, _ => exact ⟨.mean, rfl⟩
  | 2, _ => exact ⟨.greater, rfl⟩
  | 3, _ => exact ⟨.lesser, rfl⟩
  | 4, _ => exact ⟨.square, rfl⟩
theorem sc_law_kind : FnScope ["_law_script"] ["_law_script"] (defScope s_law_kind) := ⟨rfl, rfl, rfl, by decide +kernel, rfl, by decide +kernel, by decide +kernel⟩
theorem bd_law_kind : BindOk "_law_kind" s_law_kind ["_law_script"] := fun _ _ _ _ _ _ us hl => match us, hl with | [_], _ => rfl
theorem ok_law_kind (T : Txt K mg kA signsZ kindsL) (F : DefF K mg "_law_kind" s_law_kind) (c_law_cell_at : Cal P w K mg base 1 "_law_cell_at" (spF f_law_cell_at)) (c_law_mix : Cal P w K mg base 1 "_law_mix" (spF f_law_mix)) : Cal P w K mg base 2 "_law_kind" (spF f_law_kind) := by
  refine cal_fs F sc_law_kind bd_law_kind (fun z => by first | rfl | (cases z <;> rfl)) (fun f cdv A outer s H E hr => ⟨_, (pss_cons (ps_ret (pe_ix (k_ixL K rfl) (pe_lst (pa_cons pe_str (pa_cons pe_str (pa_cons pe_str (pa_cons pe_str (pa_cons pe_str pa_nil)))))) (pe_op op_mod (pe_cal c_law_mix hr (by decide : (1 : Nat) ≤ 1) rfl (pa_cons (pe_cal c_law_cell_at hr (by decide : (1 : Nat) ≤ 1) rfl (pa_cons (pv 0) (pa_cons pe_int pa_nil))) (pa_cons pe_int pa_nil))) pe_int) (fun _ _ => rfl)))
    pss_nil), ?_⟩)
  rintro s -
  have hm := mixF_mod (cellAt s 1) 2 (n := 5) (by decide)
  obtain ⟨k, hk⟩ := kd_at (i := (mixF (cellAt s 1) 2 % 5).toNat) (by omega)
  refine go_ret (Ev.ex (x := k) trivial ((ev_op ((en_lst (ea_cons ev_str (ea_cons ev_str (ea_cons ev_str (ea_cons ev_str (ea_cons ev_str ea_nil))))))).ev (ev_op (ev_call (ea_cons (ev_call (ea_cons (ev_var rfl) (ea_cons ev_int ea_nil)) ⟨(s, 1), trivial, rfl, rfl⟩) (ea_cons ev_int ea_nil)) ⟨(cellAt s 1, 2), (by show (2 : Nat) ≤ 1000; decide), rfl, rfl⟩) ev_int (rv_mod (by decide))) (rv_ixL (atI_int (xs := kindsL) dS hm.1 hm.2))).is ?_))
  rw [hk]
def f_law_least := Fs (fun _ : List Int => True) (fun s => [dIs s]) (fun _ => dEx (fun p : Int × Int => Lst p.1 p.2) d2)
theorem sc_law_least : FnScope ["_law_script", "_law_number", "_law_bottom", "_law_top", "_law_one", "_law_left"] ["_law_script"] (defScope s_law_least) := ⟨rfl, rfl, rfl, by decide +kernel, rfl, by decide +kernel, by decide +kernel⟩
theorem bd_law_least : BindOk "_law_least" s_law_least ["_law_script"] := fun _ _ _ _ _ _ us hl => match us, hl with | [_], _ => rfl
theorem ok_law_least (T : Txt K mg kA signsZ kindsL) (F : DefF K mg "_law_least" s_law_least) (c_law_cell_at : Cal P w K mg base 1 "_law_cell_at" (spF f_law_cell_at)) (c_law_mix : Cal P w K mg base 1 "_law_mix" (spF f_law_mix)) : Cal P w K mg base 2 "_law_least" (spF f_law_least) := by
  refine cal_fs F sc_law_least bd_law_least (fun z => by first | rfl | (cases z <;> rfl)) (fun f cdv A outer s H E hr => ⟨_, (pss_cons (ps_set (i := 1) sc_law_least.nd rfl (Or.inl rfl) (pe_cal c_law_mix hr (by decide : (1 : Nat) ≤ 1) rfl (pa_cons (pe_cal c_law_cell_at hr (by decide : (1 : Nat) ≤ 1) rfl (pa_cons (pv 0) (pa_cons pe_int pa_nil))) (pa_cons pe_int pa_nil))))
    (pss_cons (ps_set (i := 2) sc_law_least.nd rfl (Or.inl rfl) (pe_ix (k_ixL K rfl) (pe_lst (pa_cons (pe_op op_add pe_int (pe_op op_mod (pv 1) pe_int)) (pa_cons (pe_op op_add (pe_op op_powW pe_int pe_int) (pv 1)) pa_nil))) (pe_op op_fdivW (pe_op op_mod (pe_op op_fdivW (pv 1) pe_int) pe_int) pe_int) (fun _ _ => rfl)))
    (pss_cons (ps_set (i := 3) sc_law_least.nd rfl (Or.inl rfl) (pe_op op_add pe_int (pe_op op_mod (pe_op op_fdivW (pe_op op_mulW (pv 1) pe_int) pe_int) (pv 2))))
    (pss_cons (ps_par (i := 4) (j := 5) rfl sc_law_least.nd rfl rfl (by decide) rfl rfl (pa_cons (pv 2) (pa_cons (pv 3) pa_nil)) (by rfl))
    (pss_cons (ps_while PassesOwn.never (pt_cmpR op_gt (pv 5) pe_int (nomark _)) (pss_cons (ps_par (i := 4) (j := 5) rfl sc_law_least.nd rfl rfl (by decide) rfl rfl (pa_cons (pv 5) (pa_cons (pe_op op_mod (pv 4) (pv 5)) pa_nil)) (by rfl))
    pss_nil))
    (pss_cons (ps_ret (pe_tup (pa_cons (pe_op op_fdivW (pv 3) (pv 4)) (pa_cons (pe_op op_fdivW (pv 2) (pv 4)) pa_nil))))
    pss_nil)))))), ?_⟩)
  rintro s -
  let n := mixF (cellAt s 1) 3
  have hn : 0 ≤ n ∧ n < 306783369 := mixF_bd _ _
  let bo : Int := gt [1 + n % 12, 10 ^ 8 + n] (n / 12 % 8 / 7).toNat
  have bb : 1 ≤ bo ∧ bo < 1000000000 := by
    have : (n / 12 % 8 / 7).toNat = 0 ∨ (n / 12 % 8 / 7).toNat = 1 := by omega
    rcases this with z | z
    · show 1 ≤ gt [1 + n % 12, 10 ^ 8 + n] (n / 12 % 8 / 7).toNat ∧ gt [1 + n % 12, 10 ^ 8 + n] (n / 12 % 8 / 7).toNat < _
      rw [z]
      show 1 ≤ 1 + n % 12 ∧ 1 + n % 12 < 1000000000
      omega
    · show 1 ≤ gt [1 + n % 12, 10 ^ 8 + n] (n / 12 % 8 / 7).toNat ∧ gt [1 + n % 12, 10 ^ 8 + n] (n / 12 % 8 / 7).toNat < _
      rw [z]
      show 1 ≤ 10 ^ 8 + n ∧ 10 ^ 8 + n < 1000000000
      omega
  let tp : Int := 1 + n * 48271 / 100 % bo
  have tb : 1 ≤ tp ∧ tp ≤ bo := by
    have h1 := Int.emod_nonneg (n * 48271 / 100) (by omega : bo ≠ 0)
    have h2 := Int.emod_lt_of_pos (n * 48271 / 100) (by omega : 0 < bo)
    show 1 ≤ 1 + n * 48271 / 100 % bo ∧ 1 + n * 48271 / 100 % bo ≤ bo
    omega
  have nb : Bt 9 n := ⟨hn.1, by omega⟩
  refine go_asg (d := dI n) (ev_call (ea_cons (ev_call (ea_cons (ev_var rfl) (ea_cons ev_int ea_nil)) ⟨(s, 1), trivial, rfl, rfl⟩) (ea_cons ev_int ea_nil)) ⟨(cellAt s 1, 3), (by show (3 : Nat) ≤ 1000; decide), rfl, rfl⟩) ?_
  refine go_asg (d := dI bo) (ev_op ((en_lst (ea_cons (ev_op ev_int (ev_op (ev_var rfl) ev_int (rv_mod (by decide))) rv_add) (ea_cons (ev_op (ev_op ev_int ev_int (rv_pow (by unfold CPowW; decide +kernel))) (ev_var rfl) rv_add) ea_nil)))).ev (ev_op (ev_op (ev_op (ev_var rfl) ev_int (rv_fdiv (Bt.cd (n := 2) ⟨by decide, by decide⟩ (by decide)))) ev_int (rv_mod (by decide))) ev_int (rv_fdiv (Bt.cd (n := 1) ⟨by decide, by decide⟩ (by decide)))) (rv_ixL (atI_int (xs := [1 + n % 12, 10 ^ 8 + n]) dI (by omega) (by show _ < ((2 : Nat) : Int); omega)))) ?_
  refine go_asg (d := dI tp) (ev_op ev_int (ev_op (ev_op (ev_op (ev_var rfl) ev_int (rv_mul (nb.cm (n := 5) ⟨by decide, by decide⟩))) ev_int (rv_fdiv (Bt.cd (n := 3) ⟨by decide, by decide⟩ (by decide)))) (ev_var rfl) (rv_mod (by omega))) rv_add) ?_
  refine go_par (ea_cons (ev_var rfl) (ea_cons (ev_var rfl) ea_nil)) ?_
  refine go_while (fun q : Int × Int => [some (dIs s), some (dI n), some (dI bo), some (dI tp), some (dI q.1), some (dI q.2)]) (fun q => 0 ≤ q.1 ∧ 0 ≤ q.2 ∧ Int.gcd q.1 q.2 = Int.gcd bo tp) (fun q => q.2.toNat) (bo, tp) (by walk_at "mu le") ⟨by show 0 ≤ bo; omega, by show 0 ≤ tp; omega, rfl⟩ (fun q p => ⟨_, (et_test (ev_op (ev_var rfl) ev_int rv_gt)), fun hb => ⟨(q.2, q.1 % q.2), ?_, ?_, ?_⟩, fun hb => ?_⟩)
  · obtain ⟨p1, p2, p3⟩ := p
    have hb : 0 < q.2 := of_decide_eq_true hb
    exact ⟨p2, Int.emod_nonneg _ (by omega), by rw [← p3]; exact gcd_step _ _ p1 (by omega)⟩
  · obtain ⟨p1, p2, p3⟩ := p
    have hb : 0 < q.2 := of_decide_eq_true hb
    have := Int.emod_lt_of_pos q.1 hb
    have := Int.emod_nonneg q.1 (by omega : q.2 ≠ 0)
    show (q.1 % q.2).toNat < q.2.toNat
    omega
  · have hb : 0 < q.2 := of_decide_eq_true hb
    refine go_par (ea_cons (ev_var rfl) (ea_cons (ev_op (ev_var rfl) (ev_var rfl) (rv_mod hb)) ea_nil)) ?_
    exact go_next (by walk_at "mu le")
  · obtain ⟨p1, p2, p3⟩ := p
    have hb : ¬ 0 < q.2 := of_decide_eq_false hb
    have e : q.1 = (Int.gcd tp bo : Int) := by
      have : q.2 = 0 := by omega
      rw [this, Int.gcd_zero_right] at p3
      rw [Int.gcd_comm, ← p3]
      omega
    have g0 := gcd_pos (x := tp) (y := bo) (by omega)
    have gb : Bt 9 q.1 := by
      rw [e]
      have h1 : (Int.gcd tp bo : Int) ∣ bo := Int.gcd_dvd_right ..
      have := Int.le_of_dvd (by omega) h1
      exact ⟨by omega, by omega⟩
    refine go_ret (Ev.ex (x := (tp / q.1, bo / q.1)) ?_ (ev_tup (ea_cons (ev_op (ev_var rfl) (ev_var rfl) (rv_fdiv (gb.cd (by omega)))) (ea_cons (ev_op (ev_var rfl) (ev_var rfl) (rv_fdiv (gb.cd (by omega)))) ea_nil))))
    have d1 : (Int.gcd tp bo : Int) ∣ tp := Int.gcd_dvd_left ..
    have d2 : (Int.gcd tp bo : Int) ∣ bo := Int.gcd_dvd_right ..
    rw [← e] at d1 d2 g0
    obtain ⟨u, hu⟩ := d1
    obtain ⟨v, hv⟩ := d2
    have eu : tp / q.1 = u := by rw [hu]; exact Int.mul_ediv_cancel_left _ (by omega)
    have ev : bo / q.1 = v := by rw [hv]; exact Int.mul_ediv_cancel_left _ (by omega)
    show Lst (tp / q.1) (bo / q.1)
    have hg : Int.gcd (tp / q.1) (bo / q.1) = 1 := by
      rw [e]
      exact Int.gcd_ediv_gcd_ediv_gcd (by omega)
    rw [eu, ev] at hg ⊢
    refine ⟨?_, ?_, ?_, hg⟩
    · rcases Int.lt_or_le u 1 with z | z
      · have := Int.mul_le_mul_of_nonneg_left (a := u) (b := 0) (c := q.1) (by omega) (by omega)
        omega
      · exact z
    · rcases Int.lt_or_le v u with z | z
      · have := Int.mul_lt_mul_of_pos_left z g0
        omega
      · exact z
    · have : 1 * v ≤ q.1 * v ∨ v < 0 := by
        rcases Int.lt_or_le v 0 with z | z
        · exact .inr z
        · exact .inl (Int.mul_le_mul_of_nonneg_right (by omega) z)
      omega
end
end Mu
/-! The law's own reckonings. -/
namespace Mu
open PySem PySem.Spec PyProof.Rows L2
local macro_rules | `(tactic| walk_at "mu le") => `(tactic| (repeat (first | exact trivial | refine ⟨by first | exact Or.inr rfl | exact Or.inl rfl, ?_⟩)))
section
variable {P : Program} {w : World} {K : PySem.W.Frag} {mg : Str → Option Value} {base : Heap} {kA : Addr}
/-! ### weight, need -/
def f_law_weight := Fs (fun x : List Str × Wt => x.1.length ≤ 1000) (fun x => [dLS x.1, dWt x.2]) (fun x => dI (wt x.1 x.2))
theorem sc_law_weight : FnScope ["_law_words", "_law_weights_here", "_law_word"] ["_law_words", "_law_weights_here"] (defScope s_law_weight) := ⟨rfl, rfl, rfl, by decide +kernel, rfl, by decide +kernel, by decide +kernel⟩
theorem bd_law_weight : BindOk "_law_weight" s_law_weight ["_law_words", "_law_weights_here"] := fun _ _ _ _ _ _ us hl => match us, hl with | [_, _], _ => rfl
theorem ok_law_weight (T : Txt K mg kA signsZ kindsL) (F : DefF K mg "_law_weight" s_law_weight) : Cal P w K mg base 1 "_law_weight" (spF f_law_weight) := by
  refine cal_fs F sc_law_weight bd_law_weight (fun z => by first | rfl | (cases z <;> rfl)) (fun f cdv A outer s H E hr => ⟨_, (pss_cons (ps_ret (pe_callB (k_sum K rfl rfl) (by rfl) T.sum (by decide +kernel) (pa_cons (pe_lc (own := [("_law_word", 2)]) (g := (gName 2)) (tt := tYes) rfl sc_law_weight.nd (pi_list (pv 0)) (blkOk_by (N := ["_law_words", "_law_weights_here", "_law_word"]) (sc := defScope s_law_weight) (by decide +kernel)) (fun _ _ _ _ _ => (pg_name (i := 2) sc_law_weight.nd rfl (Or.inl rfl))) (fun _ _ _ _ _ => pts_nil) (fun _ _ _ _ _ => (pe_dget2 (hu_of hr) (pv 1) (pv 2) pe_int (mk_M2 rfl rfl rfl)))) pa_nil)))
    pss_nil), ?_⟩)
  rintro ⟨s, W⟩ h
  have h : s.length ≤ 1000 := h
  exact go_ret (ev_cb (ea_cons (((en_lc0 _ _ _ _ (fun x => dI (wget W x)) (wi_list (ev_var rfl)) (fun _ => tg_name) (fun x hx => (ev_dget2 (ev_var rfl) (ev_var rfl) ev_int wget_p)) (by omega) (by decide)).is (List.map_map (g := dI) (f := wget W)).symm).ev) ea_nil) rc_sum)
def f_law_need := Fs (fun x : Kd × (Int × Int) × Int × Int => Lst x.2.1.1 x.2.1.2 ∧ Wg x.2.2.1 ∧ Wg x.2.2.2) (fun x => [dK x.1, d2 x.2.1, dI x.2.2.1, dI x.2.2.2]) (fun x => dI (need x.1 x.2.1.1 x.2.1.2 x.2.2.1 x.2.2.2))
theorem sq_need {t b a c r : Int} (hb : 0 < b) (h0 : 0 ≤ r) (h1 : t * a * c ≤ r * r * b) (h2 : ∀ q : Int, 0 ≤ q → t * a * c ≤ q * q * b → r ≤ q) : need .square t b a c = r :=
  rootUp_eq ⟨h0, (up_le hb).mpr h1, fun q hq hn => h2 q hq ((up_le hb).mp hn)⟩
theorem sc_law_need : FnScope ["_law_kind_here", "_law_least_here", "_law_a", "_law_b", "_law_top", "_law_bottom", "_law_low", "_law_high", "_law_middle"] ["_law_kind_here", "_law_least_here", "_law_a", "_law_b"] (defScope s_law_need) := ⟨rfl, rfl, rfl, by decide +kernel, rfl, by decide +kernel, by decide +kernel⟩
theorem bd_law_need : BindOk "_law_need" s_law_need ["_law_kind_here", "_law_least_here", "_law_a", "_law_b"] := fun _ _ _ _ _ _ us hl => match us, hl with | [_, _, _, _], _ => rfl
theorem ok_law_need (T : Txt K mg kA signsZ kindsL) (F : DefF K mg "_law_need" s_law_need) : Cal P w K mg base 1 "_law_need" (spF f_law_need) := by
  refine cal_fs F sc_law_need bd_law_need (fun z => by first | rfl | (cases z <;> rfl)) (fun f cdv A outer s H E hr => ⟨_, (pss_cons (ps_asg (pv 1) (pg_tup rfl (pgs_cons (pg_name (i := 4) sc_law_need.nd rfl (Or.inl rfl)) (pgs_cons (pg_name (i := 5) sc_law_need.nd rfl (Or.inl rfl)) pgs_nil))))
    (pss_cons (ps_if (pt_cmpR op_eq (pv 0) pe_str (nomark _)) (pss_cons (ps_ret (pe_op op_fdivW (pe_op op_sub (pe_op op_add (pe_op op_add (pe_op op_mulW (pv 4) (pe_op op_add (pv 2) (pv 3))) (pv 4)) (pv 5)) pe_int) (pe_op op_add (pv 4) (pv 5))))
    pss_nil) pss_nil)
    (pss_cons (ps_if (pt_cmpR op_eq (pv 0) pe_str (nomark _)) (pss_cons (ps_ret (pe_op op_fdivW (pe_op op_sub (pe_op op_add (pe_op op_mulW (pv 4) (pe_op op_add (pv 2) (pv 3))) (pe_op op_mulW pe_int (pv 5))) pe_int) (pe_op op_mulW pe_int (pv 5))))
    pss_nil) pss_nil)
    (pss_cons (ps_if (pt_cmpR op_eq (pv 0) pe_str (nomark _)) (pss_cons (ps_ret (pe_op op_fdivW (pe_op op_sub (pe_op op_add (pe_op op_mulW (pv 4) (pe_callB (call_max2 rfl) (by rfl) T.max (by decide +kernel) (pa_cons (pv 2) (pa_cons (pv 3) pa_nil)))) (pv 5)) pe_int) (pv 5)))
    pss_nil) pss_nil)
    (pss_cons (ps_if (pt_cmpR op_eq (pv 0) pe_str (nomark _)) (pss_cons (ps_ret (pe_op op_fdivW (pe_op op_sub (pe_op op_add (pe_op op_mulW (pv 4) (pe_callB (call_min2 rfl) (by rfl) T.min (by decide +kernel) (pa_cons (pv 2) (pa_cons (pv 3) pa_nil)))) (pv 5)) pe_int) (pv 5)))
    pss_nil) pss_nil)
    (pss_cons (ps_par (i := 6) (j := 7) rfl sc_law_need.nd rfl rfl (by decide) rfl rfl (pa_cons pe_int (pa_cons (pe_op op_add (pv 2) (pv 3)) pa_nil)) (by rfl))
    (pss_cons (ps_while PassesOwn.never (pt_cmpR op_lt (pv 6) (pv 7) (nomark _)) (pss_cons (ps_set (i := 8) sc_law_need.nd rfl (Or.inl rfl) (pe_op op_fdivW (pe_op op_add (pv 6) (pv 7)) pe_int))
    (pss_cons (ps_if (pt_cmpR op_lt (pe_op op_mulW (pe_op op_mulW (pv 8) (pv 8)) (pv 5)) (pe_op op_mulW (pe_op op_mulW (pv 4) (pv 2)) (pv 3)) (nomark _)) (pss_cons (ps_set (i := 6) sc_law_need.nd rfl (Or.inl rfl) (pe_op op_add (pv 8) pe_int))
    pss_nil) (pss_cons (ps_set (i := 7) sc_law_need.nd rfl (Or.inl rfl) (pv 8))
    pss_nil))
    pss_nil)))
    (pss_cons (ps_ret (pv 6))
    pss_nil)))))))), ?_⟩)
  rintro ⟨k, ⟨t, b⟩, a, c⟩ ⟨h1, h2, h3⟩
  dsimp only at h1 h2 h3 ⊢
  obtain ⟨b4, b5⟩ := h1.bt
  have b1 := h2.bt
  have b2 := h3.bt
  obtain ⟨g1, g2, g3, _⟩ := h1
  have hs : Bt 13 (a + c) := ⟨by have := h2.1; have := h3.1; omega, by have := b1.2; have := b2.2; omega⟩
  have htb : Bt 10 (t + b) := ⟨by omega, by omega⟩
  have h2b : Bt 10 (2 * b) := ⟨by omega, by omega⟩
  refine go_asgT (ev_var rfl) tg_tup2 ?_
  refine go_if (et_test (ev_op (ev_var rfl) ev_str rv_eqS)) (fun hk => ?_) (fun hk => ?_)
  · refine go_assoc (go_ret ((ev_op (ev_op (ev_op (ev_op (ev_op (ev_var rfl) (ev_op (ev_var rfl) (ev_var rfl) rv_add) (rv_mul (b4.cm hs))) (ev_var rfl) rv_add) (ev_var rfl) rv_add) ev_int rv_sub) (ev_op (ev_var rfl) (ev_var rfl) rv_add) (rv_fdiv (htb.cd (by omega)))).is ?_))
    obtain rfl := kd_both hk
    show dI _ = dI (up _ _)
    unfold up
    rw [show t * (a + c) + t + b - 1 = t * (a + c) + (t + b) - 1 by omega]
  refine go_nextz ?_
  refine go_if (et_test (ev_op (ev_var rfl) ev_str rv_eqS)) (fun hk2 => ?_) (fun hk2 => ?_)
  · refine go_assoc (go_ret ((ev_op (ev_op (ev_op (ev_op (ev_var rfl) (ev_op (ev_var rfl) (ev_var rfl) rv_add) (rv_mul (b4.cm hs))) (ev_op ev_int (ev_var rfl) (rv_mul (Bt.cm (m := 1) ⟨by decide, by decide⟩ b5))) rv_add) ev_int rv_sub) (ev_op ev_int (ev_var rfl) (rv_mul (Bt.cm (m := 1) ⟨by decide, by decide⟩ b5))) (rv_fdiv (h2b.cd (by omega)))).is ?_))
    obtain rfl := kd_mean hk2
    rfl
  refine go_nextz ?_
  refine go_if (et_test (ev_op (ev_var rfl) ev_str rv_eqS)) (fun hk3 => ?_) (fun hk3 => ?_)
  · refine go_assoc (go_ret ((ev_op (ev_op (ev_op (ev_op (ev_var rfl) (ev_cb (ea_cons (ev_var rfl) (ea_cons (ev_var rfl) ea_nil)) rc_max) (rv_mul (b4.cm (⟨by have := h2.1; omega, by have := b1.2; have := b2.2; omega⟩ : Bt 13 (max a c))))) (ev_var rfl) rv_add) ev_int rv_sub) (ev_var rfl) (rv_fdiv (b5.cd (by omega)))).is ?_))
    obtain rfl := kd_greater hk3
    rfl
  refine go_nextz ?_
  refine go_if (et_test (ev_op (ev_var rfl) ev_str rv_eqS)) (fun hk4 => ?_) (fun hk4 => ?_)
  · refine go_assoc (go_ret ((ev_op (ev_op (ev_op (ev_op (ev_var rfl) (ev_cb (ea_cons (ev_var rfl) (ea_cons (ev_var rfl) ea_nil)) rc_min) (rv_mul (b4.cm (⟨by have := h2.1; have := h3.1; omega, by have := b1.2; have := b2.2; omega⟩ : Bt 13 (min a c))))) (ev_var rfl) rv_add) ev_int rv_sub) (ev_var rfl) (rv_fdiv (b5.cd (by omega)))).is ?_))
    obtain rfl := kd_lesser hk4
    rfl
  refine go_nextz ?_
  obtain rfl := kd_square hk hk2 hk3 hk4
  have start : t * a * c ≤ (a + c) * (a + c) * b := by
    have e1 : t * a * c = t * (a * c) := Int.mul_assoc _ _ _
    have p1 : 0 ≤ a * c := Int.mul_nonneg h2.1 h3.1
    have e2 : a * c ≤ (a + c) * (a + c) := Int.mul_le_mul (by have := h3.1; omega) (by have := h2.1; omega) h3.1 hs.1
    have e3 : t * (a * c) ≤ b * ((a + c) * (a + c)) := Int.mul_le_mul g2 e2 p1 (by omega)
    rw [e1, Int.mul_comm ((a + c) * (a + c)) b]
    exact e3
  refine go_par (ea_cons ev_int (ea_cons (ev_op (ev_var rfl) (ev_var rfl) rv_add) ea_nil)) ?_
  refine go_while (fun q : Int × Int => [some (dK .square), some (d2 (t, b)), some (dI a), some (dI c), some (dI t), some (dI b), some (dI q.1), some (dI q.2), none]) (fun q => 0 ≤ q.1 ∧ q.1 ≤ q.2 ∧ q.2 ≤ a + c ∧ t * a * c ≤ q.2 * q.2 * b ∧ ∀ r : Int, 0 ≤ r → t * a * c ≤ r * r * b → q.1 ≤ r) (fun q => (q.2 - q.1).toNat) (0, a + c) (by walk_at "mu le") ⟨by show (0 : Int) ≤ 0; omega, hs.1, by show a + c ≤ a + c; omega, start, fun r hr _ => hr⟩ (fun q p => ⟨_, (et_test (ev_op (ev_var rfl) (ev_var rfl) rv_lt)), fun hc => ?_, fun hc => ?_⟩)
  · obtain ⟨r1, r2, r3, r4, r5⟩ := p
    have hc : q.1 < q.2 := of_decide_eq_true hc
    have m1 : q.1 ≤ (q.1 + q.2) / 2 := by omega
    have m2 : (q.1 + q.2) / 2 < q.2 := by omega
    have hm : Bt 13 ((q.1 + q.2) / 2) := ⟨by omega, by have := hs.2; omega⟩
    have cond := et_test (ρ := [some (dK .square), some (d2 (t, b)), some (dI a), some (dI c), some (dI t), some (dI b), some (dI q.1), some (dI q.2), some (dI ((q.1 + q.2) / 2))]) (ev_op (ev_op (ev_op (ev_var (i := 8) rfl) (ev_var (i := 8) rfl) (rv_mul (hm.cm hm))) (ev_var (i := 5) rfl) (rv_mul ((hm.mul hm).cm b5))) (ev_op (ev_op (ev_var (i := 4) rfl) (ev_var (i := 2) rfl) (rv_mul (b4.cm b1))) (ev_var (i := 3) rfl) (rv_mul ((b4.mul b1).cm b2))) rv_lt)
    by_cases hd : (q.1 + q.2) / 2 * ((q.1 + q.2) / 2) * b < t * a * c
    · refine ⟨((q.1 + q.2) / 2 + 1, q.2), ⟨by show 0 ≤ (q.1 + q.2) / 2 + 1; omega, by show (q.1 + q.2) / 2 + 1 ≤ q.2; omega, r3, r4, fun r hr hn => ?_⟩, by show (q.2 - ((q.1 + q.2) / 2 + 1)).toNat < (q.2 - q.1).toNat; omega, ?_⟩
      · show (q.1 + q.2) / 2 + 1 ≤ r
        rcases Int.lt_or_le ((q.1 + q.2) / 2) r with z | z
        · omega
        · exfalso
          have := sq_mono hr z
          have := Int.mul_le_mul_of_nonneg_right this (by omega : 0 ≤ b)
          omega
      · refine go_asg (ev_op (ev_op (ev_var rfl) (ev_var rfl) rv_add) ev_int (rv_fdiv (Bt.cd (n := 1) ⟨by decide, by decide⟩ (by decide)))) ?_
        refine go_if cond (fun hb => ?_) (fun hb => ?_)
        · refine go_assoc (go_asg (ev_op (ev_var rfl) ev_int rv_add) ?_)
          exact go_nextz (go_next (by walk_at "mu le"))
        · exact absurd hd (of_decide_eq_false hb)
    · refine ⟨(q.1, (q.1 + q.2) / 2), ⟨r1, m1, by show (q.1 + q.2) / 2 ≤ a + c; omega, by show t * a * c ≤ (q.1 + q.2) / 2 * ((q.1 + q.2) / 2) * b; omega, r5⟩, by show ((q.1 + q.2) / 2 - q.1).toNat < (q.2 - q.1).toNat; omega, ?_⟩
      refine go_asg (ev_op (ev_op (ev_var rfl) (ev_var rfl) rv_add) ev_int (rv_fdiv (Bt.cd (n := 1) ⟨by decide, by decide⟩ (by decide)))) ?_
      refine go_if cond (fun hb => ?_) (fun hb => ?_)
      · exact absurd (of_decide_eq_true hb) hd
      · refine go_assoc (go_asg (ev_var rfl) ?_)
        exact go_nextz (go_next (by walk_at "mu le"))
  · obtain ⟨r1, r2, r3, r4, r5⟩ := p
    have hc : ¬ q.1 < q.2 := of_decide_eq_false hc
    have e : q.1 = q.2 := by omega
    refine go_ret ((ev_var rfl).is ?_)
    show dI q.1 = dI (need .square t b a c)
    rw [sq_need (by omega) r1 (by rw [e]; exact r4) r5]
def f_law_are_mates := Fs (fun x : Kd × (Int × Int) × Int × Int => Lst x.2.1.1 x.2.1.2 ∧ Wg x.2.2.1 ∧ Wg x.2.2.2) (fun x => [dK x.1, d2 x.2.1, dI x.2.2.1, dI x.2.2.2]) (fun x => dB (areMates x.1 x.2.1.1 x.2.1.2 x.2.2.1 x.2.2.2))
theorem sc_law_are_mates : FnScope ["_law_kind_here", "_law_least_here", "_law_a", "_law_b"] ["_law_kind_here", "_law_least_here", "_law_a", "_law_b"] (defScope s_law_are_mates) := ⟨rfl, rfl, rfl, by decide +kernel, rfl, by decide +kernel, by decide +kernel⟩
theorem bd_law_are_mates : BindOk "_law_are_mates" s_law_are_mates ["_law_kind_here", "_law_least_here", "_law_a", "_law_b"] := fun _ _ _ _ _ _ us hl => match us, hl with | [_, _, _, _], _ => rfl
theorem ok_law_are_mates (T : Txt K mg kA signsZ kindsL) (F : DefF K mg "_law_are_mates" s_law_are_mates) (c_law_need : Cal P w K mg base 1 "_law_need" (spF f_law_need)) : Cal P w K mg base 2 "_law_are_mates" (spF f_law_are_mates) := by
  refine cal_fs F sc_law_are_mates bd_law_are_mates (fun z => by first | rfl | (cases z <;> rfl)) (fun f cdv A outer s H E hr => ⟨_, (pss_cons (ps_ret (pe_and (pe_cmpR op_gt (pv 2) pe_int (nomark _)) (pe_and (pe_cmpR op_gt (pv 3) pe_int (nomark _)) (pe_one (pe_cmpR op_le (pe_cal c_law_need hr (by decide : (1 : Nat) ≤ 1) rfl (pa_cons (pv 0) (pa_cons (pv 1) (pa_cons (pv 2) (pa_cons (pv 3) pa_nil))))) (pe_callB (call_min2 rfl) (by rfl) T.min (by decide +kernel) (pa_cons (pv 2) (pa_cons (pv 3) pa_nil))) (nomark _))))))
    pss_nil), ?_⟩)
  rintro ⟨k, ⟨t, b⟩, a, c⟩ ⟨h1, h2, h3⟩
  exact go_ret (ev_andV (ev_op (ev_var rfl) ev_int rv_gt) (fun _ => (ev_andV (ev_op (ev_var rfl) ev_int rv_gt) (fun _ => (ev_op (ev_call (ea_cons (ev_var rfl) (ea_cons (ev_var rfl) (ea_cons (ev_var rfl) (ea_cons (ev_var rfl) ea_nil)))) ⟨(k, (t, b), a, c), ⟨h1, h2, h3⟩, rfl, rfl⟩) (ev_cb (ea_cons (ev_var rfl) (ea_cons (ev_var rfl) ea_nil)) rc_min) rv_le)))))
theorem mates_low {k : Kd} {t b a m : Int} (h : Lst t b) (h1 : 1 ≤ m) (h2 : m ≤ a) : areMates k t b a m = decide (mateLow k t b a ≤ m) := by
  obtain ⟨g1, g2, g3, _⟩ := h
  have key : need k t b a m ≤ min a m ↔ mateLow k t b a ≤ m := by
    rw [show min a m = m by omega]
    cases k with
    | both =>
      show up _ _ ≤ m ↔ up _ _ ≤ m
      rw [up_le (by omega), up_le (by omega), Int.mul_add, Int.mul_add, Int.mul_comm m t]
      omega
    | mean =>
      show up _ _ ≤ m ↔ up _ _ ≤ m
      rw [up_le (by omega), up_le (by omega), Int.mul_add, Int.mul_sub, Int.mul_comm m t]
      omega
    | greater =>
      show up _ _ ≤ m ↔ up _ _ ≤ m
      rw [show max a m = a by omega]
    | lesser =>
      show up _ _ ≤ m ↔ 1 ≤ m
      rw [up_le (by omega), show min a m = m by omega]
      have := Int.mul_le_mul_of_nonneg_left g2 (by omega : 0 ≤ m)
      rw [Int.mul_comm m t] at this
      omega
    | square =>
      show rootUp _ ≤ m ↔ up _ _ ≤ m
      rw [up_le (by omega)]
      have r := rootUp_is (up (t * a * m) b)
      constructor
      · intro hle
        have h3 := sq_mono r.h0 hle
        have h4 : up (t * a * m) b ≤ m * m := Int.le_trans r.h1 h3
        rw [up_le (by omega)] at h4
        rw [show m * m * b = (m * b) * m by rw [Int.mul_assoc, Int.mul_comm m b, Int.mul_comm]] at h4
        exact Int.le_of_mul_le_mul_right h4 (by omega)
      · intro hle
        refine r.h2 m (by omega) ((up_le (by omega)).mpr ?_)
        have := Int.mul_le_mul_of_nonneg_right hle (by omega : 0 ≤ m)
        rw [show m * m * b = (m * b) * m by rw [Int.mul_assoc, Int.mul_comm m b, Int.mul_comm]]
        exact this
  unfold areMates
  rw [decide_eq_true (by omega : a > 0), decide_eq_true (by omega : m > 0), Bool.true_and, Bool.true_and, decide_eq_decide]
  exact key
def f_law_least_need := Fs (fun x : Kd × (Int × Int) × Int => Lst x.2.1.1 x.2.1.2 ∧ Wg x.2.2 ∧ 1 ≤ x.2.2) (fun x => [dK x.1, d2 x.2.1, dI x.2.2]) (fun x => dI (leastNeed x.1 x.2.1.1 x.2.1.2 x.2.2))
theorem sc_law_least_need : FnScope ["_law_kind_here", "_law_least_here", "_law_a", "_law_low", "_law_high", "_law_middle"] ["_law_kind_here", "_law_least_here", "_law_a"] (defScope s_law_least_need) := ⟨rfl, rfl, rfl, by decide +kernel, rfl, by decide +kernel, by decide +kernel⟩
theorem bd_law_least_need : BindOk "_law_least_need" s_law_least_need ["_law_kind_here", "_law_least_here", "_law_a"] := fun _ _ _ _ _ _ us hl => match us, hl with | [_, _, _], _ => rfl
theorem ok_law_least_need (T : Txt K mg kA signsZ kindsL) (F : DefF K mg "_law_least_need" s_law_least_need) (c_law_need : Cal P w K mg base 1 "_law_need" (spF f_law_need)) (c_law_are_mates : Cal P w K mg base 2 "_law_are_mates" (spF f_law_are_mates)) : Cal P w K mg base 3 "_law_least_need" (spF f_law_least_need) := by
  refine cal_fs F sc_law_least_need bd_law_least_need (fun z => by first | rfl | (cases z <;> rfl)) (fun f cdv A outer s H E hr => ⟨_, (pss_cons (ps_par (i := 3) (j := 4) rfl sc_law_least_need.nd rfl rfl (by decide) rfl rfl (pa_cons pe_int (pa_cons (pv 2) pa_nil)) (by rfl))
    (pss_cons (ps_while PassesOwn.never (pt_cmpR op_lt (pv 3) (pv 4) (nomark _)) (pss_cons (ps_set (i := 5) sc_law_least_need.nd rfl (Or.inl rfl) (pe_op op_fdivW (pe_op op_add (pv 3) (pv 4)) pe_int))
    (pss_cons (ps_if (pt_val (pe_cal c_law_are_mates hr (by decide : (2 : Nat) ≤ 2) rfl (pa_cons (pv 0) (pa_cons (pv 1) (pa_cons (pv 2) (pa_cons (pv 5) pa_nil)))))) (pss_cons (ps_set (i := 4) sc_law_least_need.nd rfl (Or.inl rfl) (pv 5))
    pss_nil) (pss_cons (ps_set (i := 3) sc_law_least_need.nd rfl (Or.inl rfl) (pe_op op_add (pv 5) pe_int))
    pss_nil))
    pss_nil)))
    (pss_cons (ps_ret (pe_cal c_law_need hr (by decide : (1 : Nat) ≤ 2) rfl (pa_cons (pv 0) (pa_cons (pv 1) (pa_cons (pv 2) (pa_cons (pv 3) pa_nil))))))
    pss_nil))), ?_⟩)
  rintro ⟨k, ⟨t, b⟩, a⟩ ⟨h1, h2, h3⟩
  dsimp only at h1 h2 h3 ⊢
  have ml := mateLow_wg (k := k) h1 h2 h3
  refine go_par (ea_cons ev_int (ea_cons (ev_var rfl) ea_nil)) ?_
  refine go_while (fun q : Int × Int => [some (dK k), some (d2 (t, b)), some (dI a), some (dI q.1), some (dI q.2), none]) (fun q => 1 ≤ q.1 ∧ q.1 ≤ mateLow k t b a ∧ mateLow k t b a ≤ q.2 ∧ q.2 ≤ a) (fun q => (q.2 - q.1).toNat) (1, a) (by walk_at "mu le") ⟨by show (1 : Int) ≤ 1; omega, ml.1, ml.2, by show a ≤ a; omega⟩ (fun q p => ⟨_, (et_test (ev_op (ev_var rfl) (ev_var rfl) rv_lt)), fun hc => ?_, fun hc => ?_⟩)
  · obtain ⟨r1, r2, r3, r4⟩ := p
    have hc : q.1 < q.2 := of_decide_eq_true hc
    have am := mates_low (k := k) (a := a) (m := (q.1 + q.2) / 2) h1 (by omega) (by omega)
    have wm : Wg ((q.1 + q.2) / 2) := ⟨by omega, by have := h2.2; omega⟩
    by_cases hd : mateLow k t b a ≤ (q.1 + q.2) / 2
    · refine ⟨(q.1, (q.1 + q.2) / 2), ⟨r1, r2, hd, by show (q.1 + q.2) / 2 ≤ a; omega⟩, by show ((q.1 + q.2) / 2 - q.1).toNat < (q.2 - q.1).toNat; omega, ?_⟩
      refine go_asg (ev_op (ev_op (ev_var rfl) (ev_var rfl) rv_add) ev_int (rv_fdiv (Bt.cd (n := 1) ⟨by decide, by decide⟩ (by decide)))) ?_
      refine go_if (et_B (ev_call (ea_cons (ev_var rfl) (ea_cons (ev_var rfl) (ea_cons (ev_var rfl) (ea_cons (ev_var rfl) ea_nil)))) ⟨(k, (t, b), a, (q.1 + q.2) / 2), ⟨h1, h2, wm⟩, rfl, rfl⟩)) (fun hb => ?_) (fun hb => ?_)
      · refine go_assoc (go_asg (ev_var rfl) ?_)
        exact go_nextz (go_next (by walk_at "mu le"))
      · have hb : areMates k t b a ((q.1 + q.2) / 2) = false := hb
        rw [am] at hb
        exact absurd hd (of_decide_eq_false hb)
    · refine ⟨((q.1 + q.2) / 2 + 1, q.2), ⟨by show 1 ≤ (q.1 + q.2) / 2 + 1; omega, by show (q.1 + q.2) / 2 + 1 ≤ mateLow k t b a; omega, r3, r4⟩, by show (q.2 - ((q.1 + q.2) / 2 + 1)).toNat < (q.2 - q.1).toNat; omega, ?_⟩
      refine go_asg (ev_op (ev_op (ev_var rfl) (ev_var rfl) rv_add) ev_int (rv_fdiv (Bt.cd (n := 1) ⟨by decide, by decide⟩ (by decide)))) ?_
      refine go_if (et_B (ev_call (ea_cons (ev_var rfl) (ea_cons (ev_var rfl) (ea_cons (ev_var rfl) (ea_cons (ev_var rfl) ea_nil)))) ⟨(k, (t, b), a, (q.1 + q.2) / 2), ⟨h1, h2, wm⟩, rfl, rfl⟩)) (fun hb => ?_) (fun hb => ?_)
      · have hb : areMates k t b a ((q.1 + q.2) / 2) = true := hb
        rw [am] at hb
        exact absurd (of_decide_eq_true hb) hd
      · refine go_assoc (go_asg (ev_op (ev_var rfl) ev_int rv_add) ?_)
        exact go_nextz (go_next (by walk_at "mu le"))
  · obtain ⟨r1, r2, r3, r4⟩ := p
    have hc : ¬ q.1 < q.2 := of_decide_eq_false hc
    have e : q.1 = mateLow k t b a := by omega
    refine go_ret ((ev_call (ea_cons (ev_var rfl) (ea_cons (ev_var rfl) (ea_cons (ev_var rfl) (ea_cons (ev_var rfl) ea_nil)))) ⟨(k, (t, b), a, q.1), ⟨h1, h2, by have := h2.2; show Wg q.1; exact ⟨by omega, by omega⟩⟩, rfl, rfl⟩).is ?_)
    show dI (need k t b a q.1) = dI (need k t b a (mateLow k t b a))
    rw [e]
def f_law_in_order := Fs (fun x : List Str × List Str => x.2.length ≤ 1000) (fun x => [dLS x.1, dLS x.2]) (fun x => dLS (ordF x.1 x.2))
theorem sc_law_in_order : FnScope ["_law_words", "_law_order_here", "_law_word"] ["_law_words", "_law_order_here"] (defScope s_law_in_order) := ⟨rfl, rfl, rfl, by decide +kernel, rfl, by decide +kernel, by decide +kernel⟩
theorem bd_law_in_order : BindOk "_law_in_order" s_law_in_order ["_law_words", "_law_order_here"] := fun _ _ _ _ _ _ us hl => match us, hl with | [_, _], _ => rfl
theorem ok_law_in_order (T : Txt K mg kA signsZ kindsL) (F : DefF K mg "_law_in_order" s_law_in_order) : Cal P w K mg base 1 "_law_in_order" (spF f_law_in_order) := by
  refine cal_fs F sc_law_in_order bd_law_in_order (fun z => by first | rfl | (cases z <;> rfl)) (fun f cdv A outer s H E hr => ⟨_, (pss_cons (ps_ret (pe_lc (own := [("_law_word", 2)]) (g := (gName 2)) rfl sc_law_in_order.nd (pi_list (pv 1)) (blkOk_by (N := ["_law_words", "_law_order_here", "_law_word"]) (sc := defScope s_law_in_order) (by decide +kernel)) (fun _ _ _ _ _ => (pg_name (i := 2) sc_law_in_order.nd rfl (Or.inl rfl))) (fun _ _ _ _ _ => pts_one (pt_cmpR (k_in K rfl) (pv 2) (pv 0) (by rfl))) (fun _ _ _ _ _ => (pv 2))))
    pss_nil), ?_⟩)
  rintro ⟨s, o⟩ h
  dsimp only at h ⊢
  exact go_ret ((en_lc _ _ _ _ _ dS (wi_list (ev_var rfl)) (fun _ => tg_name) (fun x hx => (et_test (ev_op (ev_var rfl) (ev_var rfl) rv_in))) (fun x hx hf => (ev_var rfl)) (by omega) (by decide))).ev
def f_law_rest := Fs (fun x : List Str × Wt × List Str × Nat => OkS x.2.2.1 ∧ x.2.2.2 < (ordF x.1 x.2.2.1).length) (fun x => [dLS x.1, dWt x.2.1, dLS x.2.2.1, dS (gt (ordF x.1 x.2.2.1) x.2.2.2)]) (fun x => dI (wt ((ordF x.1 x.2.2.1).drop x.2.2.2) x.2.1))
theorem sc_law_rest : FnScope ["_law_words", "_law_weights_here", "_law_order_here", "_law_word", "_law_own"] ["_law_words", "_law_weights_here", "_law_order_here", "_law_word"] (defScope s_law_rest) := ⟨rfl, rfl, rfl, by decide +kernel, rfl, by decide +kernel, by decide +kernel⟩
theorem bd_law_rest : BindOk "_law_rest" s_law_rest ["_law_words", "_law_weights_here", "_law_order_here", "_law_word"] := fun _ _ _ _ _ _ us hl => match us, hl with | [_, _, _, _], _ => rfl
theorem ok_law_rest (T : Txt K mg kA signsZ kindsL) (F : DefF K mg "_law_rest" s_law_rest) (c_law_weight : Cal P w K mg base 1 "_law_weight" (spF f_law_weight)) (c_law_in_order : Cal P w K mg base 1 "_law_in_order" (spF f_law_in_order)) : Cal P w K mg base 2 "_law_rest" (spF f_law_rest) := by
  refine cal_fs F sc_law_rest bd_law_rest (fun z => by first | rfl | (cases z <;> rfl)) (fun f cdv A outer s H E hr => ⟨_, (pss_cons (ps_set (i := 4) sc_law_rest.nd rfl (Or.inl rfl) (pe_cal c_law_in_order hr (by decide : (1 : Nat) ≤ 1) rfl (pa_cons (pv 0) (pa_cons (pv 2) pa_nil))))
    (pss_cons (ps_ret (pe_cal c_law_weight hr (by decide : (1 : Nat) ≤ 1) rfl (pa_cons (pe_slice (k_slL K rfl) (pv 4) (po_some (pe_bm PySem.F.plainAttrs_list PySem.F.slot_list_index PySem.F.type_list_index (k_index K rfl) (pv 4) (pa_cons (pv 3) pa_nil))) po_none) (pa_cons (pv 1) pa_nil))))
    pss_nil)), ?_⟩)
  rintro ⟨s, W, ord, i⟩ ⟨h, hi⟩
  dsimp only at h hi ⊢
  have own := ordF_ok (s := s) h
  refine go_asg (ev_call (ea_cons (ev_var rfl) (ea_cons (ev_var rfl) ea_nil)) ⟨(s, ord), (by have := h.l; show ord.length ≤ _; omega), rfl, rfl⟩) ?_
  refine go_ret (ev_call (ea_cons ((en_slL (ev_var rfl) (eo_some (ev_index (ev_var rfl) (ev_var rfl) (gt_lt hi) (fun m hm e => by
    have hm2 : m < (ordF s ord).length := by omega
    have e2 := gt_lt hm2
    rw [e] at e2
    have := gt_inj own.nd hm2 hi (Option.some.inj e2).symm
    omega))) eo_none).ev.is (by rw [cut_from (by omega)]; exact congrArg dL (List.map_drop ..).symm)) (ea_cons (ev_var rfl) ea_nil)) ⟨((ordF s ord).drop i, W), (by show ((ordF s ord).drop i).length ≤ 1000; rw [List.length_drop]; have := own.l; omega), rfl, rfl⟩)
def f_law_beginning := Fs (fun x : Kd × (Int × Int) × List Str × Wt × List Str => Lst x.2.1.1 x.2.1.2 ∧ OkS x.2.2.1 ∧ OkW x.2.2.2.1 ∧ OkS x.2.2.2.2) (fun x => [dK x.1, d2 x.2.1, dLS x.2.2.1, dWt x.2.2.2.1, dLS x.2.2.2.2]) (fun x => dLS (bgn x.1 x.2.1.1 x.2.1.2 x.2.2.1 x.2.2.2.1 x.2.2.2.2))
theorem sc_law_beginning : FnScope ["_law_kind_here", "_law_least_here", "_law_words", "_law_weights_here", "_law_order_here", "_law_few", "_law_word"] ["_law_kind_here", "_law_least_here", "_law_words", "_law_weights_here", "_law_order_here"] (defScope s_law_beginning) := ⟨rfl, rfl, rfl, by decide +kernel, rfl, by decide +kernel, by decide +kernel⟩
theorem bd_law_beginning : BindOk "_law_beginning" s_law_beginning ["_law_kind_here", "_law_least_here", "_law_words", "_law_weights_here", "_law_order_here"] := fun _ _ _ _ _ _ us hl => match us, hl with | [_, _, _, _, _], _ => rfl
theorem ok_law_beginning (T : Txt K mg kA signsZ kindsL) (F : DefF K mg "_law_beginning" s_law_beginning) (c_law_weight : Cal P w K mg base 1 "_law_weight" (spF f_law_weight)) (c_law_least_need : Cal P w K mg base 3 "_law_least_need" (spF f_law_least_need)) (c_law_in_order : Cal P w K mg base 1 "_law_in_order" (spF f_law_in_order)) (c_law_rest : Cal P w K mg base 2 "_law_rest" (spF f_law_rest)) : Cal P w K mg base 4 "_law_beginning" (spF f_law_beginning) := by
  refine cal_fs F sc_law_beginning bd_law_beginning (fun z => by first | rfl | (cases z <;> rfl)) (fun f cdv A outer s H E hr => ⟨_, (pss_cons (ps_if (pt_cmpR (k_eqD K rfl hr.units) (pv 2) (pe_lst pa_nil) (nomark _)) (pss_cons (ps_ret (pe_lst pa_nil))
    pss_nil) pss_nil)
    (pss_cons (ps_set (i := 5) sc_law_beginning.nd rfl (Or.inr rfl) (pe_cal c_law_least_need hr (by decide : (3 : Nat) ≤ 3) rfl (pa_cons (pv 0) (pa_cons (pv 1) (pa_cons (pe_cal c_law_weight hr (by decide : (1 : Nat) ≤ 3) rfl (pa_cons (pv 2) (pa_cons (pv 3) pa_nil))) pa_nil)))))
    (pss_cons (ps_ret (pe_lc (own := [("_law_word", 6)]) (g := (gName 6)) rfl sc_law_beginning.nd (pi_list (pe_cal c_law_in_order hr (by decide : (1 : Nat) ≤ 3) rfl (pa_cons (pv 2) (pa_cons (pv 4) pa_nil)))) (blkOk_by (N := ["_law_kind_here", "_law_least_here", "_law_words", "_law_weights_here", "_law_order_here", "_law_few", "_law_word"]) (sc := defScope s_law_beginning) (by decide +kernel)) (fun _ _ _ _ _ => (pg_name (i := 6) sc_law_beginning.nd rfl (Or.inl rfl))) (fun _ _ _ _ _ => pts_one (pt_cmpR op_ge (pe_cal c_law_rest hr (by decide : (2 : Nat) ≤ 3) rfl (pa_cons (pv 2) (pa_cons (pv 3) (pa_cons (pv 4) (pa_cons (pv 6) pa_nil))))) (pv 5) (nomark _))) (fun _ _ _ _ _ => (pv 6))))
    pss_nil))), ?_⟩)
  rintro ⟨k, ⟨t, b⟩, s, W, ord⟩ ⟨h1, h2, h3, h4⟩
  dsimp only at h1 h2 h3 h4 ⊢
  have hl : (ordF s ord).length ≤ 20 := (ordF_ok h4).l
  refine go_if (et_test (ev_op (ev_var rfl) ((en_lst ea_nil)).ev (rv_eqD (dd_ls s) dd_nil (shp_ls h2.w) shp_nil (eqv_lnil s)))) (fun hb => ?_) (fun hb => ?_)
  · refine go_assoc (go_ret (((en_lst ea_nil)).ev.is ?_))
    have e : s = [] := List.isEmpty_iff.mp hb
    rw [bgn, if_pos e]
    rfl
  · have e : s ≠ [] := fun z => by rw [z] at hb; cases hb
    refine go_nextz ?_
    refine go_asg (ev_call (ea_cons (ev_var rfl) (ea_cons (ev_var rfl) (ea_cons (ev_call (ea_cons (ev_var rfl) (ea_cons (ev_var rfl) ea_nil)) ⟨(s, W), (by have := h2.l; show s.length ≤ _; omega), rfl, rfl⟩) ea_nil))) ⟨(k, (t, b), wt s W), ⟨h1, wt_wg h3 h2.l, wt_pos h3 e⟩, rfl, rfl⟩) ?_
    refine go_ret (((en_lc (List.range (ordF s ord).length) (fun i => dS (gt (ordF s ord) i)) _ _ (fun i => decide (leastNeed k t b (wt s W) ≤ wt ((ordF s ord).drop i) W)) (fun i => dS (gt (ordF s ord) i)) (wi_is (wi_list (ev_call (ea_cons (ev_var rfl) (ea_cons (ev_var rfl) ea_nil)) ⟨(s, ord), (by have := h4.l; show ord.length ≤ _; omega), rfl, rfl⟩)) (map_gt (ordF s ord) dS).symm) (fun _ => tg_name) (fun i hi => (et_test (ev_op (ev_call (ea_cons (ev_var rfl) (ea_cons (ev_var rfl) (ea_cons (ev_var rfl) (ea_cons (ev_var rfl) ea_nil)))) ⟨(s, W, ord, i), ⟨h4, List.mem_range.mp hi⟩, rfl, rfl⟩) (ev_var rfl) rv_ge))) (fun x hx hf => (ev_var rfl)) (by rw [List.length_range]; omega) (by decide))).ev.is ?_)
    rw [bgn, if_neg e]
    show dL _ = dL ((List.map _ _).map dS)
    rw [List.map_map]
    rfl
def f_law_common := Fs (fun x : List Str × List Str × Wt => x.1.length ≤ 20) (fun x => [dLS x.1, dLS x.2.1, dWt x.2.2]) (fun x => dI (cw x.1 x.2.1 x.2.2))
theorem sc_law_common : FnScope ["_law_one", "_law_other", "_law_weights_here", "_law_word"] ["_law_one", "_law_other", "_law_weights_here"] (defScope s_law_common) := ⟨rfl, rfl, rfl, by decide +kernel, rfl, by decide +kernel, by decide +kernel⟩
theorem bd_law_common : BindOk "_law_common" s_law_common ["_law_one", "_law_other", "_law_weights_here"] := fun _ _ _ _ _ _ us hl => match us, hl with | [_, _, _], _ => rfl
theorem ok_law_common (T : Txt K mg kA signsZ kindsL) (F : DefF K mg "_law_common" s_law_common) (c_law_weight : Cal P w K mg base 1 "_law_weight" (spF f_law_weight)) : Cal P w K mg base 2 "_law_common" (spF f_law_common) := by
  refine cal_fs F sc_law_common bd_law_common (fun z => by first | rfl | (cases z <;> rfl)) (fun f cdv A outer s H E hr => ⟨_, (pss_cons (ps_ret (pe_cal c_law_weight hr (by decide : (1 : Nat) ≤ 1) rfl (pa_cons (pe_lc (own := [("_law_word", 3)]) (g := (gName 3)) rfl sc_law_common.nd (pi_list (pv 0)) (blkOk_by (N := ["_law_one", "_law_other", "_law_weights_here", "_law_word"]) (sc := defScope s_law_common) (by decide +kernel)) (fun _ _ _ _ _ => (pg_name (i := 3) sc_law_common.nd rfl (Or.inl rfl))) (fun _ _ _ _ _ => pts_one (pt_cmpR (k_in K rfl) (pv 3) (pv 1) (by rfl))) (fun _ _ _ _ _ => (pv 3))) (pa_cons (pv 2) pa_nil))))
    pss_nil), ?_⟩)
  rintro ⟨s, o, W⟩ h
  have h : s.length ≤ 20 := h
  have hl : (com s o).length ≤ 20 := Nat.le_trans (List.length_filter_le _ _) h
  exact go_ret (ev_call (ea_cons ((en_lc _ _ _ _ _ dS (wi_list (ev_var rfl)) (fun _ => tg_name) (fun x hx => (et_test (ev_op (ev_var rfl) (ev_var rfl) rv_in))) (fun x hx hf => (ev_var rfl)) (by omega) (by decide))).ev (ea_cons (ev_var rfl) ea_nil)) ⟨(com s o, W), (by show (com s o).length ≤ 1000; omega), rfl, rfl⟩)
end
end Mu
/-! The law's lots and held pairs. -/
namespace Mu
open PySem PySem.Spec PyProof.Rows L2
local macro_rules | `(tactic| walk_at "mu le") => `(tactic| (repeat (first | exact trivial | refine ⟨by first | exact Or.inr rfl | exact Or.inl rfl, ?_⟩)))
theorem gt_map {α : Type} [Inhabited α] (δ : α → Dn) [Inhabited Dn] {xs : List α} {i : Nat} (h : i < xs.length) : gt (xs.map δ) i = δ (gt xs i) := by
  rw [gt, List.getElem?_map, gt_lt h]
  rfl
theorem togg_in {nm s : List Str} {c : Int} {k : Nat} (h : gt nm (mixF c (20 + k) % nm.length).toNat ∈ s) : togg nm c s k = s.erase (gt nm (mixF c (20 + k) % nm.length).toNat) := if_pos h
theorem togg_out {nm s : List Str} {c : Int} {k : Nat} (h : gt nm (mixF c (20 + k) % nm.length).toNat ∉ s) : togg nm c s k = s ++ [gt nm (mixF c (20 + k) % nm.length).toNat] := if_neg h
section
variable {P : Program} {w : World} {K : PySem.W.Frag} {mg : Str → Option Value} {base : Heap} {kA : Addr}
def f_law_set := FsN (fun x : List Str × Int × List (List Str) => NmS x.1 ∧ 0 < x.1.length ∧ NmLot x.2.2) (fun x => [dLS x.1, dI x.2.1, dLot x.2.2]) (fun x => (setF x.1 x.2.1 x.2.2).map dS)
theorem sc_law_set : FnScope ["_law_names_here", "_law_cell", "_law_ahead", "_law_some", "_law_k", "_law_name"] ["_law_names_here", "_law_cell", "_law_ahead"] (defScope s_law_set) := ⟨rfl, rfl, rfl, by decide +kernel, rfl, by decide +kernel, by decide +kernel⟩
theorem bd_law_set : BindOk "_law_set" s_law_set ["_law_names_here", "_law_cell", "_law_ahead"] := fun _ _ _ _ _ _ us hl => match us, hl with | [_, _, _], _ => rfl
theorem ok_law_set (T : Txt K mg kA signsZ kindsL) (F : DefF K mg "_law_set" s_law_set) (c_law_mix : Cal P w K mg base 1 "_law_mix" (spF f_law_mix)) (c_law_turned_row : Cal P w K mg base 1 "_law_turned_row" (spF f_law_turned_row)) : Cal P w K mg base 2 "_law_set" (spN f_law_set) := by
  refine cal_fsN F sc_law_set bd_law_set (fun z => by first | rfl | (cases z <;> rfl)) (fun f cdv A outer s H E hr => ⟨_, (pss_cons (ps_set (i := 3) sc_law_set.nd rfl (Or.inr rfl) (pe_lc (own := [("_law_k", 4), ("_law_name", 5)]) (g := (gTup K 2 (gCons (gName 4) (gCons (gName 5) gNil)))) rfl sc_law_set.nd (pi_enum (by rfl) T.enumerate (pa_cons (pv 0) pa_nil)) (blkOk_by (N := ["_law_names_here", "_law_cell", "_law_ahead", "_law_some", "_law_k", "_law_name"]) (sc := defScope s_law_set) (by decide +kernel)) (fun _ _ _ _ _ => (pg_tup rfl (pgs_cons (pg_name (i := 4) sc_law_set.nd rfl (Or.inl rfl)) (pgs_cons (pg_name (i := 5) sc_law_set.nd rfl (Or.inl rfl)) pgs_nil)))) (fun _ _ _ _ _ => pts_one (pt_cmpR op_lt (pe_op op_mod (pe_cal c_law_mix hr (by decide : (1 : Nat) ≤ 1) rfl (pa_cons (pv 1) (pa_cons (pe_op op_add pe_int (pv 4)) pa_nil))) pe_int) (pe_ix (k_ixL K rfl) (pe_lst (pa_cons pe_int (pa_cons pe_int (pa_cons pe_int (pa_cons pe_int pa_nil))))) (pe_op op_mod (pe_cal c_law_mix hr (by decide : (1 : Nat) ≤ 1) rfl (pa_cons (pv 1) (pa_cons pe_int pa_nil))) pe_int) (fun _ _ => rfl)) (nomark _))) (fun _ _ _ _ _ => (pv 5))))
    (pss_cons (ps_if (PW.pt (pw_and (pt_cmpR (k_neD K rfl hr.units) (pv 2) (pe_lst pa_nil) (nomark _)) (pw_and1 (pt_cmpR op_eq (pe_op op_mod (pe_op op_fdivW (pe_cal c_law_mix hr (by decide : (1 : Nat) ≤ 1) rfl (pa_cons (pv 1) (pa_cons pe_int pa_nil))) pe_int) pe_int) pe_int (nomark _))))) (pss_cons (ps_set (i := 3) sc_law_set.nd rfl (Or.inr rfl) (pe_callTy (k_list K rfl) (by rfl) T.list (by decide +kernel) (pa_cons (pe_ix (k_ixL K rfl) (pv 2) (pe_op op_mod (pe_op op_fdivW (pe_cal c_law_mix hr (by decide : (1 : Nat) ≤ 1) rfl (pa_cons (pv 1) (pa_cons pe_int pa_nil))) pe_int) (pe_callB (k_len K rfl) (by rfl) T.len PySem.boot_len (pa_cons (pv 2) pa_nil))) (fun _ _ => rfl)) pa_nil)))
    (pss_cons (ps_for PassesOwn.never rfl (pi_range1 rfl T.range (pa_cons (pe_op op_mod (pe_op op_fdivW (pe_cal c_law_mix hr (by decide : (1 : Nat) ≤ 1) rfl (pa_cons (pv 1) (pa_cons pe_int pa_nil))) pe_int) pe_int) pa_nil)) (pg_name (i := 4) sc_law_set.nd rfl (Or.inl rfl)) (pss_cons (ps_set (i := 5) sc_law_set.nd rfl (Or.inl rfl) (pe_ix (k_ixL K rfl) (pv 0) (pe_op op_mod (pe_cal c_law_mix hr (by decide : (1 : Nat) ≤ 1) rfl (pa_cons (pv 1) (pa_cons (pe_op op_add pe_int (pv 4)) pa_nil))) (pe_callB (k_len K rfl) (by rfl) T.len PySem.boot_len (pa_cons (pv 0) pa_nil))) (fun _ _ => rfl)))
    (pss_cons (ps_if (pt_cmpR (k_in K rfl) (pv 5) (pv 3) (by rfl)) (pss_cons (ps_expr (pe_bm PySem.F.plainAttrs_list PySem.F.slot_list_remove PySem.F.type_list_remove mt_removeS (pv 3) (pa_cons (pv 5) pa_nil)))
    pss_nil) (pss_cons (ps_expr (pe_bm PySem.F.plainAttrs_list PySem.F.slot_list_append PySem.F.type_list_append mt_append (pv 3) (pa_cons (pv 5) pa_nil)))
    pss_nil))
    pss_nil)))
    pss_nil)) pss_nil)
    (pss_cons (ps_ret (pe_lc (own := [("_law_k", 4)]) (g := (gName 4)) (tt := tYes) rfl sc_law_set.nd (pi_list (pe_cal c_law_turned_row hr (by decide : (1 : Nat) ≤ 1) rfl (pa_cons (pe_cal c_law_mix hr (by decide : (1 : Nat) ≤ 1) rfl (pa_cons (pv 1) (pa_cons pe_int pa_nil))) (pa_cons (pe_callB (k_len K rfl) (by rfl) T.len PySem.boot_len (pa_cons (pv 3) pa_nil)) pa_nil)))) (blkOk_by (N := ["_law_names_here", "_law_cell", "_law_ahead", "_law_some", "_law_k", "_law_name"]) (sc := defScope s_law_set) (by decide +kernel)) (fun _ _ _ _ _ => (pg_name (i := 4) sc_law_set.nd rfl (Or.inl rfl))) (fun _ _ _ _ _ => pts_nil) (fun _ _ _ _ _ => (pe_ix (k_ixL K rfl) (pv 3) (pv 4) (fun _ _ => rfl)))))
    pss_nil))), ?_⟩)
  rintro ⟨nm, c, l⟩ ⟨h1, h2, h3⟩
  dsimp only at h1 h2 h3 ⊢
  have hnl := h1.ok.l
  have m4 := mixF_mod c 0 (n := 4) (by decide)
  have b0 := mixF_bd c 0
  refine go_asgN ((en_lc _ _ _ _ (fun i => decide (mixF c (1 + i) % 8 < gt [1, 3, 4, 6] (mixF c 0 % 4).toNat)) (fun i => dS (gt nm i)) (wi_enumR (ea_cons (ev_var rfl) ea_nil)) (fun _ => tg_tup2) (fun i hi => (et_test (ev_op (ev_op (ev_call (ea_cons (ev_var rfl) (ea_cons (ev_op ev_int (ev_var rfl) rv_add) ea_nil)) ⟨(c, 1 + i), (by have := List.mem_range.mp hi; show 1 + i ≤ 1000; omega), rfl, rfl⟩) ev_int (rv_mod (by decide))) (ev_op ((en_lst (ea_cons ev_int (ea_cons ev_int (ea_cons ev_int (ea_cons ev_int ea_nil)))))).ev (ev_op (ev_call (ea_cons (ev_var rfl) (ea_cons ev_int ea_nil)) ⟨(c, 0), Nat.zero_le _, rfl, rfl⟩) ev_int (rv_mod (by decide))) (rv_ixL (atI_int (xs := [1, 3, 4, 6]) dI m4.1 m4.2))) rv_lt))) (fun x hx hf => (ev_var rfl)) (by rw [List.length_range]; omega) (by decide)).is (show _ = (some0 nm c).map dS by unfold some0; rw [List.map_map]; rfl)) ?_
  refine go_ifJ [some (dLS nm), some (dI c), some (dLot l), none, none, none] (some (oL 3 ((if fromAhead c l then some1 nm c l else some0 nm c).map dS))) (b := fromAhead c l) ((et_and (et_test (ev_op (ev_var rfl) ((en_lst ea_nil)).ev (rv_neD (dd_lst (δ := dLS) (f := pS) fun _ _ => dd_ls _) dd_nil (shp_lot fun s hs => (h3.s s hs).ok.w) shp_nil (eqv_lnil l)))) (fun _ => (et_test (ev_op (ev_op (ev_op (ev_call (ea_cons (ev_var rfl) (ea_cons ev_int ea_nil)) ⟨(c, 0), Nat.zero_le _, rfl, rfl⟩) ev_int (rv_fdiv (Bt.cd (n := 1) ⟨by decide, by decide⟩ (by decide)))) ev_int (rv_mod (by decide))) ev_int rv_eqI)))).is rfl) (fun hb => ?_) (fun hb => ?_) ?_
  · have hl : 0 < l.length := by
      unfold fromAhead at hb
      cases l with
      | nil => cases hb
      | cons _ _ => exact Nat.succ_pos _
    have hl13 := h3.n
    have q1 := Int.emod_nonneg (mixF c 0 / 8) (by omega : (l.length : Int) ≠ 0)
    have q2 := Int.emod_lt_of_pos (mixF c 0 / 8) (by omega : (0 : Int) < l.length)
    refine go_asgN (en_cb (ea_cons (ev_op (ev_var rfl) (ev_op (ev_op (ev_call (ea_cons (ev_var rfl) (ea_cons ev_int ea_nil)) ⟨(c, 0), Nat.zero_le _, rfl, rfl⟩) ev_int (rv_fdiv (Bt.cd (n := 1) ⟨by decide, by decide⟩ (by decide)))) ((ev_cb (ea_cons (ev_var rfl) ea_nil) rc_len).is (by rw [List.length_map])) (rv_mod (by omega))) (rv_ixL (atI_int dLS q1 q2))) ea_nil) rc_list) ?_
    have start : NmS (gt l (mixF c 0 / 8 % l.length).toNat) := h3.s _ (gt_mem (by omega))
    have inv : ∀ pre : List Nat, NmS (pre.foldl (togg nm c) (gt l (mixF c 0 / 8 % l.length).toNat)) := fun pre => fold_inv (P := NmS) (fun b a hb => togg_ok h1 h2 c a hb) start
    refine go_for (List.range (mixF c 0 / 64 % 3).toNat) (fun k : Nat => dI (k : Int)) _ _ (fun pre => [some (dLS nm), some (dI c), some (dLot l), none, none, none]) (fun pre => some (oL 3 ((pre.foldl (togg nm c) (gt l (mixF c 0 / 8 % l.length).toNat)).map dS))) (wi_range1 (n := mixF c 0 / 64 % 3) (ea_cons (ev_op (ev_op (ev_call (ea_cons (ev_var rfl) (ea_cons ev_int ea_nil)) ⟨(c, 0), Nat.zero_le _, rfl, rfl⟩) ev_int (rv_fdiv (Bt.cd (n := 2) ⟨by decide, by decide⟩ (by decide)))) ev_int (rv_mod (by decide))) ea_nil) (by omega) (by omega)) (fun _ => tg_name) (by walk_at "mu le") rfl (fun pre k post e => ?_) ?_ ok_k
    · obtain ⟨e1, e2⟩ := range_len e
      have ml := mixF_mod c (20 + k) (n := nm.length) (by omega)
      have pv := inv pre
      refine go_asg (ev_op (ev_var rfl) (ev_op (ev_call (ea_cons (ev_var rfl) (ea_cons (ev_op ev_int (ev_var rfl) rv_add) ea_nil)) ⟨(c, 20 + k), (by show 20 + k ≤ 1000; omega), rfl, rfl⟩) ((ev_cb (ea_cons (ev_var rfl) ea_nil) rc_len).is (by rw [List.length_map])) (rv_mod (by omega))) (rv_ixL (atI_int (xs := nm) dS ml.1 ml.2))) ?_
      refine go_ifF (et_test (ev_op (ev_var rfl) (ev_var rfl) rv_in)) (fun hb => ?_) (fun hb => ?_)
      · have hb := of_decide_eq_true hb
        refine go_assoc (go_remove (ev_var rfl) hb ?_)
        refine go_nextz (go_nextz (go_nextO (by walk_at "mu le") ?_))
        rw [List.foldl_append]
        exact congrArg (fun z => some (oL 3 (List.map dS z))) (togg_in (k := k) hb).symm
      · have hb := of_decide_eq_false hb
        refine go_assoc (go_app (ev_var rfl) (by rw [List.length_map]; have := pv.ok.l; omega) ?_)
        refine go_nextz (go_nextz (go_nextO (by walk_at "mu le") ?_))
        rw [List.foldl_append]
        exact (ol_snoc rfl).trans (congrArg (fun z => some (oL 3 (List.map dS z))) (togg_out (k := k) hb).symm)
    · refine go_nextO (by walk_at "mu le") ?_
      rw [if_pos hb]
      rfl
  · refine go_nextO (by walk_at "mu le") ?_
    rw [if_neg (by rw [hb]; decide)]
  · have base : NmS (if fromAhead c l then some1 nm c l else some0 nm c) := by
      have := setF_ok h1 h2 c h3.s
      have p := shuf_perm (if fromAhead c l then some1 nm c l else some0 nm c) (mixF c 24)
      exact ⟨p.nodup_iff.mp this.nd, fun x hx => this.sub x (p.mem_iff.mpr hx)⟩
    show Go _ _ _ (BrtN ((shuf (if fromAhead c l then some1 nm c l else some0 nm c) (mixF c 24)).map dS))
    generalize (if fromAhead c l then some1 nm c l else some0 nm c) = u at base ⊢
    have ul := base.ok.l
    refine go_tell ?_
    refine go_retN ((en_lc0 (trow (mixF c 24) u.length) (fun i : Nat => dI (i : Int)) _ _ (fun i => dS (gt u i)) (wi_list (ev_call (ea_cons (ev_call (ea_cons (ev_var rfl) (ea_cons ev_int ea_nil)) ⟨(c, 24), (by show (24 : Nat) ≤ 1000; decide), rfl, rfl⟩) (ea_cons ((ev_cb (ea_cons (ev_var rfl) ea_nil) rc_len).is (by rw [List.length_map])) ea_nil)) ⟨(mixF c 24, u.length), (by show u.length ≤ 1000; omega), rfl, rfl⟩)) (fun _ => tg_name) (fun i hi => (ev_op (ev_var rfl) (ev_var rfl) (rv_ixL (atI_gt dS (List.mem_range.mp ((trow_perm _ _).mem_iff.mp hi)))))) (by rw [trow_len]; omega) (by decide)).is ?_)
    unfold shuf
    rw [List.map_map]
    rfl
def f_law_lot := Fs (fun _ : List Int => True) (fun s => [dIs s]) (fun s => dLot (lotF s))
theorem sc_law_lot : FnScope ["_law_script", "_law_names_here", "_law_lot_here", "_law_number", "_law_many", "_law_k"] ["_law_script"] (defScope s_law_lot) := ⟨rfl, rfl, rfl, by decide +kernel, rfl, by decide +kernel, by decide +kernel⟩
theorem bd_law_lot : BindOk "_law_lot" s_law_lot ["_law_script"] := fun _ _ _ _ _ _ us hl => match us, hl with | [_], _ => rfl
theorem ok_law_lot (T : Txt K mg kA signsZ kindsL) (F : DefF K mg "_law_lot" s_law_lot) (c_law_cell_at : Cal P w K mg base 1 "_law_cell_at" (spF f_law_cell_at)) (c_law_mix : Cal P w K mg base 1 "_law_mix" (spF f_law_mix)) (c_law_names : Cal P w K mg base 2 "_law_names" (spF f_law_names)) (c_law_set : Cal P w K mg base 2 "_law_set" (spN f_law_set)) : Cal P w K mg base 3 "_law_lot" (spF f_law_lot) := by
  refine cal_fs F sc_law_lot bd_law_lot (fun z => by first | rfl | (cases z <;> rfl)) (fun f cdv A outer s H E hr => ⟨_, (pss_cons (ps_set (i := 1) sc_law_lot.nd rfl (Or.inl rfl) (pe_cal c_law_names hr (by decide : (2 : Nat) ≤ 2) rfl (pa_cons (pv 0) pa_nil)))
    (pss_cons (ps_set (i := 2) sc_law_lot.nd rfl (Or.inl rfl) (pe_lst pa_nil))
    (pss_cons (ps_set (i := 3) sc_law_lot.nd rfl (Or.inl rfl) (pe_cal c_law_mix hr (by decide : (1 : Nat) ≤ 2) rfl (pa_cons (pe_cal c_law_cell_at hr (by decide : (1 : Nat) ≤ 2) rfl (pa_cons (pv 0) (pa_cons pe_int pa_nil))) (pa_cons pe_int pa_nil))))
    (pss_cons (ps_set (i := 4) sc_law_lot.nd rfl (Or.inl rfl) (pe_ix (k_ixL K rfl) (pe_lst (pa_cons (pe_op op_mod (pv 3) pe_int) (pa_cons (pe_op op_add pe_int (pe_op op_mod (pe_op op_fdivW (pv 3) pe_int) pe_int)) pa_nil))) (pe_callTy call_int1 (by rfl) T.int (by decide +kernel) (pa_cons (pe_cmpR op_eq (pe_op op_mod (pe_op op_fdivW (pv 3) pe_int) pe_int) pe_int (nomark _)) pa_nil)) (fun _ _ => rfl)))
    (pss_cons (ps_for PassesOwn.never rfl (pi_range1 rfl T.range (pa_cons (pv 4) pa_nil)) (pg_name (i := 5) sc_law_lot.nd rfl (Or.inl rfl)) (pss_cons (ps_expr (pe_bm PySem.F.plainAttrs_list PySem.F.slot_list_append PySem.F.type_list_append mt_append (pv 2) (pa_cons (pe_cal c_law_set hr (by decide : (2 : Nat) ≤ 2) rfl (pa_cons (pv 1) (pa_cons (pe_cal c_law_cell_at hr (by decide : (1 : Nat) ≤ 2) rfl (pa_cons (pv 0) (pa_cons (pe_op op_add pe_int (pv 5)) pa_nil))) (pa_cons (pv 2) pa_nil)))) pa_nil)))
    pss_nil))
    (pss_cons (ps_ret (pv 2))
    pss_nil)))))), ?_⟩)
  rintro s -
  have mb := manyF_bd s
  have n1 := namesF_len s
  have c0 := mixF_bd (cellAt s 0) 1
  refine go_asg (ev_call (ea_cons (ev_var rfl) ea_nil) ⟨s, trivial, rfl, rfl⟩) ?_
  refine go_asgN (en_lst ea_nil) ?_
  refine go_asg (ev_call (ea_cons (ev_call (ea_cons (ev_var rfl) (ea_cons ev_int ea_nil)) ⟨(s, 0), trivial, rfl, rfl⟩) (ea_cons ev_int ea_nil)) ⟨(cellAt s 0, 1), (by show (1 : Nat) ≤ 1000; decide), rfl, rfl⟩) ?_
  refine go_asg (d := dI (manyF s)) (ev_op ((en_lst (ea_cons (ev_op (ev_var rfl) ev_int (rv_mod (by decide))) (ea_cons (ev_op ev_int (ev_op (ev_op (ev_var rfl) ev_int (rv_fdiv (Bt.cd (n := 3) ⟨by decide, by decide⟩ (by decide)))) ev_int (rv_mod (by decide))) rv_add) ea_nil)))).ev (ev_cb (ea_cons (ev_op (ev_op (ev_op (ev_var rfl) ev_int (rv_fdiv (Bt.cd (n := 1) ⟨by decide, by decide⟩ (by decide)))) ev_int (rv_mod (by decide))) ev_int rv_eqI) ea_nil) rc_intB) (rv_ixL (atI_int (xs := [mixF (cellAt s 0) 1 % 9, 11 + mixF (cellAt s 0) 1 / 144 % 3]) dI (by split <;> decide) (by show _ < ((2 : Nat) : Int); split <;> decide)))) ?_
  refine go_for (List.range (manyF s).toNat) (fun k : Nat => dI (k : Int)) _ _ (fun pre => [some (dIs s), some (dLS (namesF s)), none, some (dI (mixF (cellAt s 0) 1)), some (dI (manyF s)), none]) (fun pre => some (oL 2 ((pre.foldl (lstep s) []).map dLS))) (wi_range1 (n := manyF s) (ea_cons (ev_var rfl) ea_nil) (by omega) (by omega)) (fun _ => tg_name) (by walk_at "mu le") rfl (fun pre k post e => ?_) ?_ ok_k
  · obtain ⟨e1, e2⟩ := range_len e
    have ll : (pre.foldl (lstep s) []).length ≤ 13 := by
      rw [lstep_len]
      show 0 + _ ≤ _
      omega
    refine go_appF (en_call (ea_cons (ev_var rfl) (ea_cons (ev_call (ea_cons (ev_var rfl) (ea_cons (ev_op ev_int (ev_var rfl) rv_add) ea_nil)) ⟨(s, 2 + k), trivial, rfl, rfl⟩) (ea_cons (ev_var rfl) ea_nil))) ⟨(namesF s, cellAt s (2 + k), pre.foldl (lstep s) []), ⟨namesF_ok s, (by show 0 < (namesF s).length; omega), ⟨ll, lotF_sets s pre⟩⟩, rfl, rfl⟩) (by rw [List.length_map]; omega) ?_
    refine go_nextO (by walk_at "mu le") ?_
    rw [List.foldl_append]
    exact ol_snoc rfl
  · exact go_tell (go_ret (ev_var rfl))
/-- which names have a weight -/
def hasW (s : List Int) (i : Nat) : Bool := decide (mixF (cellAt s 1) (10 + i) % 4 < mixF (cellAt s 1) 0 % 5)
def valW (s : List Int) (i : Nat) : Int := 1 + mixF (cellAt s 1) (10 + i) / 4 % gt [3, 12, 1000000] (mixF (cellAt s 1) 1 % 3).toNat
def wOf (s : List Int) (is : List Nat) : Wt := (is.filter (hasW s)).map fun i => (gt (namesF s) i, valW s i)
def wF (s : List Int) : Wt := wOf s (List.range (namesF s).length)
theorem gt3_bd (i : Nat) (h : i < 3) : 1 ≤ gt [(3 : Int), 12, 1000000] i ∧ gt [(3 : Int), 12, 1000000] i ≤ 1000000 := by
  match i, h with
  | 0, _ => exact ⟨by decide, by decide⟩
  | 1, _ => exact ⟨by decide, by decide⟩
  | 2, _ => exact ⟨by decide, by decide⟩
theorem valW_bd (s : List Int) (i : Nat) : 1 ≤ valW s i ∧ valW s i ≤ 1000000 := by
  unfold valW
  have m3 := mixF_mod (cellAt s 1) 1 (n := 3) (by decide)
  have g := gt3_bd (mixF (cellAt s 1) 1 % 3).toNat (by omega)
  have h1 := Int.emod_nonneg (mixF (cellAt s 1) (10 + i) / 4) (by omega : gt [(3 : Int), 12, 1000000] (mixF (cellAt s 1) 1 % 3).toNat ≠ 0)
  have h2 := Int.emod_lt_of_pos (mixF (cellAt s 1) (10 + i) / 4) (by omega : 0 < gt [(3 : Int), 12, 1000000] (mixF (cellAt s 1) 1 % 3).toNat)
  omega
theorem wOf_keys (s : List Int) (is : List Nat) : (wOf s is).map Prod.fst = (is.filter (hasW s)).map (gt (namesF s)) := by
  unfold wOf
  rw [List.map_map]
  rfl
theorem wF_nd (s : List Int) : ((wF s).map Prod.fst).Nodup := by
  unfold wF
  rw [wOf_keys]
  exact nd_gt (namesF_ok s).nd (List.nodup_range.filter _) fun i hi => List.mem_range.mp (List.mem_filter.mp hi).1
theorem wF_ok (s : List Int) : OkW (wF s) := ⟨fun p hp => by
  obtain ⟨i, hi, rfl⟩ := List.mem_map.mp hp
  have hi := List.mem_range.mp (List.mem_filter.mp hi).1
  exact ⟨(namesF_ok s).ok.w _ (gt_mem hi), valW_bd s i⟩⟩
theorem look_no {α : Type} {x : Str} : ∀ {W : List (Str × α)}, x ∉ W.map Prod.fst → W.lookup x = none
  | [], _ => rfl
  | p :: W, h => by
    rw [List.map_cons, List.mem_cons, not_or] at h
    have h2 : (x == p.1) = false := by simpa [beq_eq_false_iff_ne] using h.1
    rw [List.lookup_cons, h2]
    exact look_no h.2
def f_law_weights := Fs (fun _ : List Int => True) (fun s => [dIs s]) (fun s => dWt (wF s))
theorem sc_law_weights : FnScope ["_law_script", "_law_cell", "_law_weights_here", "_law_k", "_law_name", "_law_number"] ["_law_script"] (defScope s_law_weights) := ⟨rfl, rfl, rfl, by decide +kernel, rfl, by decide +kernel, by decide +kernel⟩
theorem bd_law_weights : BindOk "_law_weights" s_law_weights ["_law_script"] := fun _ _ _ _ _ _ us hl => match us, hl with | [_], _ => rfl
theorem ok_law_weights (T : Txt K mg kA signsZ kindsL) (F : DefF K mg "_law_weights" s_law_weights) (c_law_cell_at : Cal P w K mg base 1 "_law_cell_at" (spF f_law_cell_at)) (c_law_mix : Cal P w K mg base 1 "_law_mix" (spF f_law_mix)) (c_law_names : Cal P w K mg base 2 "_law_names" (spF f_law_names)) : Cal P w K mg base 3 "_law_weights" (spF f_law_weights) := by
  refine cal_fs F sc_law_weights bd_law_weights (fun z => by first | rfl | (cases z <;> rfl)) (fun f cdv A outer s H E hr => ⟨_, (pss_cons (ps_set (i := 1) sc_law_weights.nd rfl (Or.inl rfl) (pe_cal c_law_cell_at hr (by decide : (1 : Nat) ≤ 2) rfl (pa_cons (pv 0) (pa_cons pe_int pa_nil))))
    (pss_cons (ps_set (i := 2) sc_law_weights.nd rfl (Or.inl rfl) pe_dnewK)
    (pss_cons (ps_for PassesOwn.never rfl (pi_enum (by rfl) T.enumerate (pa_cons (pe_cal c_law_names hr (by decide : (2 : Nat) ≤ 2) rfl (pa_cons (pv 0) pa_nil)) pa_nil)) (pg_tup rfl (pgs_cons (pg_name (i := 3) sc_law_weights.nd rfl (Or.inl rfl)) (pgs_cons (pg_name (i := 4) sc_law_weights.nd rfl (Or.inl rfl)) pgs_nil))) (pss_cons (ps_set (i := 5) sc_law_weights.nd rfl (Or.inl rfl) (pe_cal c_law_mix hr (by decide : (1 : Nat) ≤ 2) rfl (pa_cons (pv 1) (pa_cons (pe_op op_add pe_int (pv 3)) pa_nil))))
    (pss_cons (ps_if (pt_cmpR op_lt (pe_op op_mod (pv 5) pe_int) (pe_op op_mod (pe_cal c_law_mix hr (by decide : (1 : Nat) ≤ 2) rfl (pa_cons (pv 1) (pa_cons pe_int pa_nil))) pe_int) (nomark _)) (pss_cons (ps_dput (hu_of hr) (pv 2) (pv 4) (pe_op op_add pe_int (pe_op op_mod (pe_op op_fdivW (pv 5) pe_int) (pe_ix (k_ixL K rfl) (pe_lst (pa_cons pe_int (pa_cons pe_int (pa_cons pe_int pa_nil)))) (pe_op op_mod (pe_cal c_law_mix hr (by decide : (1 : Nat) ≤ 2) rfl (pa_cons (pv 1) (pa_cons pe_int pa_nil))) pe_int) (fun _ _ => rfl)))) rfl)
    pss_nil) pss_nil)
    pss_nil)))
    (pss_cons (ps_ret (pv 2))
    pss_nil)))), ?_⟩)
  rintro s -
  have n1 := namesF_len s
  have nok := namesF_ok s
  have m3 := mixF_mod (cellAt s 1) 1 (n := 3) (by decide)
  have g3 := gt3_bd (mixF (cellAt s 1) 1 % 3).toNat (by omega)
  refine go_asg (ev_call (ea_cons (ev_var rfl) (ea_cons ev_int ea_nil)) ⟨(s, 1), trivial, rfl, rfl⟩) ?_
  refine go_asgD ?_
  refine go_for _ _ _ _ (fun pre => [some (dIs s), some (dI (cellAt s 1)), none, none, none, none]) (fun pre => some (oD 2 ((wOf s pre).map fun p => (p.1, V.int p.2)))) (wi_enumR (xs := namesF s) (δ := dS) (ea_cons (ev_call (ea_cons (ev_var rfl) ea_nil) ⟨s, trivial, rfl, rfl⟩) ea_nil)) (fun _ => tg_tup2) (by walk_at "mu le") rfl (fun pre i post e => ?_) ?_ (fun _ _ e => by cases e; exact of_decide_eq_true rfl)
  · obtain ⟨e1, e2⟩ := range_len e
    have hnp : i ∉ pre := by
      have := List.nodup_range (n := (namesF s).length)
      rw [e] at this
      exact nd_split this
    have hpr : ∀ j ∈ pre, j < (namesF s).length := fun j hj => List.mem_range.mp (by rw [e]; exact List.mem_append_left _ hj)
    refine go_asg (ev_call (ea_cons (ev_var rfl) (ea_cons (ev_op ev_int (ev_var rfl) rv_add) ea_nil)) ⟨(cellAt s 1, 10 + i), (by show 10 + i ≤ 1000; omega), rfl, rfl⟩) ?_
    refine go_if (b := hasW s i) (et_test (ev_op (ev_op (ev_var rfl) ev_int (rv_mod (by decide))) (ev_op (ev_call (ea_cons (ev_var rfl) (ea_cons ev_int ea_nil)) ⟨(cellAt s 1, 0), Nat.zero_le _, rfl, rfl⟩) ev_int (rv_mod (by decide))) rv_lt)) (fun hb => ?_) (fun hb => ?_)
    · refine go_assoc (go_dput (w := .int (valW s i)) (ev_var rfl) (ev_op ev_int (ev_op (ev_op (ev_var rfl) ev_int (rv_fdiv (Bt.cd (n := 1) ⟨by decide, by decide⟩ (by decide)))) (ev_op ((en_lst (ea_cons ev_int (ea_cons ev_int (ea_cons ev_int ea_nil))))).ev (ev_op (ev_call (ea_cons (ev_var rfl) (ea_cons ev_int ea_nil)) ⟨(cellAt s 1, 1), (by show (1 : Nat) ≤ 1000; decide), rfl, rfl⟩) ev_int (rv_mod (by decide))) (rv_ixL (atI_int (xs := [3, 12, 1000000]) dI m3.1 m3.2))) (rv_mod (Int.lt_of_lt_of_le (by decide : (0 : Int) < 1) g3.1))) rv_add) ?_ ?_ ?_)
      · rw [List.length_map, wOf, List.length_map]
        have := List.length_filter_le (hasW s) pre
        omega
      · refine look_no ?_
        rw [List.map_map]
        show gt (namesF s) i ∉ (wOf s pre).map Prod.fst
        rw [wOf_keys]
        intro hm
        obtain ⟨j, hj, ej⟩ := List.mem_map.mp hm
        have hj := (List.mem_filter.mp hj).1
        have := gt_inj nok.nd (hpr j hj) e2 ej
        subst this
        exact hnp hj
      · refine go_nextz (go_nextz (go_nextO (by walk_at "mu le") ?_))
        show _ = some (oD 2 ((wOf s (pre ++ [i])).map _))
        rw [wOf, wOf, fil_snoc (P := hasW s) hb, List.map_append]
        rfl
    · refine go_nextz (go_nextO (by walk_at "mu le") ?_)
      show _ = some (oD 2 ((wOf s (pre ++ [i])).map _))
      rw [wOf, wOf, fil_skip (P := hasW s) hb]
  · exact go_tellD (go_ret (ev_var rfl))
theorem fil_eq (s o part : List Str) : decide (part.filter (fun x => decide (x ∈ s)) = part.filter fun x => decide (x ∈ o)) = agreeB s o part := by
  unfold agreeB
  rw [Bool.eq_iff_iff, decide_eq_true_eq, List.all_eq_true]
  constructor
  · intro h x hx
    refine decide_eq_true ?_
    rw [decide_eq_decide]
    constructor
    · intro h1
      have : x ∈ part.filter fun x => decide (x ∈ s) := List.mem_filter.mpr ⟨hx, decide_eq_true h1⟩
      rw [h] at this
      exact of_decide_eq_true (List.mem_filter.mp this).2
    · intro h1
      have : x ∈ part.filter fun x => decide (x ∈ o) := List.mem_filter.mpr ⟨hx, decide_eq_true h1⟩
      rw [← h] at this
      exact of_decide_eq_true (List.mem_filter.mp this).2
  · intro h
    refine List.filter_congr fun x hx => ?_
    exact of_decide_eq_true (h x hx)
def agC (s o : List Str) (ps : List (List Str)) : Nat := (ps.filter (agreeB s o)).length
theorem agN_len (s o : List Str) (ps : List (List Str)) : (agN s o ps).length = agC s o ps := by
  unfold agN agC
  rw [List.length_map]
  have e : ps = (List.range ps.length).map (gt ps) := by
    have := map_gt ps fun x => x
    rw [List.map_id'' (fun _ => rfl)] at this
    exact this.symm
  have e2 : ps.filter (agreeB s o) = ((List.range ps.length).filter fun i => agreeB s o (gt ps i)).map (gt ps) := by
    conv => lhs; rw [e, List.filter_map]
    rfl
  rw [e2, List.length_map]
def f_law_agreeing := Fs (fun x : List Str × List Str × List (List Str) => x.2.2.length ≤ 1000 ∧ ∀ p ∈ x.2.2, OkS p) (fun x => [dLS x.1, dLS x.2.1, dLot x.2.2]) (fun x => dI (agC x.1 x.2.1 x.2.2 : Int))
theorem sc_law_agreeing : FnScope ["_law_one", "_law_other", "_law_parts_here", "_law_many", "_law_part", "_law_word"] ["_law_one", "_law_other", "_law_parts_here"] (defScope s_law_agreeing) := ⟨rfl, rfl, rfl, by decide +kernel, rfl, by decide +kernel, by decide +kernel⟩
theorem bd_law_agreeing : BindOk "_law_agreeing" s_law_agreeing ["_law_one", "_law_other", "_law_parts_here"] := fun _ _ _ _ _ _ us hl => match us, hl with | [_, _, _], _ => rfl
theorem ok_law_agreeing (T : Txt K mg kA signsZ kindsL) (F : DefF K mg "_law_agreeing" s_law_agreeing) : Cal P w K mg base 1 "_law_agreeing" (spF f_law_agreeing) := by
  refine cal_fs F sc_law_agreeing bd_law_agreeing (fun z => by first | rfl | (cases z <;> rfl)) (fun f cdv A outer s H E hr => ⟨_, (pss_cons (ps_set (i := 3) sc_law_agreeing.nd rfl (Or.inl rfl) pe_int)
    (pss_cons (ps_for PassesOwn.never rfl (pi_list (pv 2)) (pg_name (i := 4) sc_law_agreeing.nd rfl (Or.inl rfl)) (pss_cons (ps_if (pt_cmpR (k_eqD K rfl hr.units) (pe_lc (own := [("_law_word", 5)]) (g := (gName 5)) rfl sc_law_agreeing.nd (pi_list (pv 4)) (blkOk_by (N := ["_law_one", "_law_other", "_law_parts_here", "_law_many", "_law_part", "_law_word"]) (sc := defScope s_law_agreeing) (by decide +kernel)) (fun _ _ _ _ _ => (pg_name (i := 5) sc_law_agreeing.nd rfl (Or.inl rfl))) (fun _ _ _ _ _ => pts_one (pt_cmpR (k_in K rfl) (pv 5) (pv 0) (by rfl))) (fun _ _ _ _ _ => (pv 5))) (pe_lc (own := [("_law_word", 5)]) (g := (gName 5)) rfl sc_law_agreeing.nd (pi_list (pv 4)) (blkOk_by (N := ["_law_one", "_law_other", "_law_parts_here", "_law_many", "_law_part", "_law_word"]) (sc := defScope s_law_agreeing) (by decide +kernel)) (fun _ _ _ _ _ => (pg_name (i := 5) sc_law_agreeing.nd rfl (Or.inl rfl))) (fun _ _ _ _ _ => pts_one (pt_cmpR (k_in K rfl) (pv 5) (pv 1) (by rfl))) (fun _ _ _ _ _ => (pv 5))) (nomark _)) (pss_cons (ps_set (i := 3) sc_law_agreeing.nd rfl (Or.inl rfl) (pe_op op_add (pv 3) pe_int))
    pss_nil) pss_nil)
    pss_nil))
    (pss_cons (ps_ret (pv 3))
    pss_nil))), ?_⟩)
  rintro ⟨s, o, ps⟩ ⟨h, h2⟩
  dsimp only at h h2 ⊢
  refine go_asg ev_int ?_
  refine go_for _ _ _ _ (fun pre => [some (dLS s), some (dLS o), some (dLot ps), some (dI (agC s o pre : Int)), none, none]) (fun pre => none) (wi_list (ev_var rfl)) (fun _ => tg_name) (by walk_at "mu le") rfl (fun pre part post e => ?_) (go_ret (ev_var rfl)) ok_n
  have hp := h2 _ (pre_len e).2
  have hl := hp.l
  refine go_if (b := agreeB s o part) ((et_test (ev_op ((en_lc _ _ _ _ _ dS (wi_list (ev_var rfl)) (fun _ => tg_name) (fun x hx => (et_test (ev_op (ev_var rfl) (ev_var rfl) rv_in))) (fun x hx hf => (ev_var rfl)) (by omega) (by decide))).ev ((en_lc _ _ _ _ _ dS (wi_list (ev_var rfl)) (fun _ => tg_name) (fun x hx => (et_test (ev_op (ev_var rfl) (ev_var rfl) rv_in))) (fun x hx hf => (ev_var rfl)) (by omega) (by decide))).ev (rv_eqD (dd_ls _) (dd_ls _) (shp_ls fun x hx => hp.w x (List.mem_filter.mp hx).1) (shp_ls fun x hx => hp.w x (List.mem_filter.mp hx).1) (eqv_lst eqv_str _ _)))).is (fil_eq s o part)) (fun hb => ?_) (fun hb => ?_)
  · refine go_assoc (go_asg ((ev_op (ev_var rfl) ev_int rv_add).is (show _ = dI (agC s o (pre ++ [part]) : Int) by
      unfold agC
      rw [List.filter_append, List.filter_cons_of_pos hb, List.length_append]
      rfl)) ?_)
    exact go_nextz (go_next (by walk_at "mu le"))
  · have e3 : agC s o (pre ++ [part]) = agC s o pre := by
      unfold agC
      rw [List.filter_append, List.filter_cons_of_neg (by rw [hb]; decide), List.filter_nil, List.append_nil]
    rw [e3]
    exact go_nextz (go_next (by walk_at "mu le"))
def f_law_holds := Fs (fun x : Option (List (List Str)) × Kd × (Int × Int) × List (List Str) × Wt × (Nat × Nat) => Lst x.2.2.1.1 x.2.2.1.2 ∧ OkLot x.2.2.2.1 ∧ OkW x.2.2.2.2.1 ∧ x.2.2.2.2.2.1 < x.2.2.2.1.length ∧ x.2.2.2.2.2.2 < x.2.2.2.1.length ∧ ∀ ps, x.1 = some ps → OkPs x.2.2.2.1 ps)
  (fun x => [dS (wayS x.1), dK x.2.1, d2 x.2.2.1, dLS (gt x.2.2.2.1 x.2.2.2.2.2.1), dLS (gt x.2.2.2.1 x.2.2.2.2.2.2), dWt x.2.2.2.2.1, byD x.1]) (fun x => dB (keepsB x.2.1 x.2.2.1.1 x.2.2.1.2 x.2.2.2.1 x.2.2.2.2.1 x.1 x.2.2.2.2.2))
theorem sc_law_holds : FnScope ["_law_way", "_law_kind_here", "_law_least_here", "_law_one", "_law_other", "_law_weights_here", "_law_by", "_law_a", "_law_b", "_law_wants", "_law_first", "_law_second", "_law_word"] ["_law_way", "_law_kind_here", "_law_least_here", "_law_one", "_law_other", "_law_weights_here", "_law_by"] (defScope s_law_holds) := ⟨rfl, rfl, rfl, by decide +kernel, rfl, by decide +kernel, by decide +kernel⟩
theorem bd_law_holds : BindOk "_law_holds" s_law_holds ["_law_way", "_law_kind_here", "_law_least_here", "_law_one", "_law_other", "_law_weights_here", "_law_by"] := fun _ _ _ _ _ _ us hl => match us, hl with | [_, _, _, _, _, _, _], _ => rfl
theorem ok_law_holds (T : Txt K mg kA signsZ kindsL) (F : DefF K mg "_law_holds" s_law_holds) (c_law_weight : Cal P w K mg base 1 "_law_weight" (spF f_law_weight)) (c_law_need : Cal P w K mg base 1 "_law_need" (spF f_law_need)) (c_law_are_mates : Cal P w K mg base 2 "_law_are_mates" (spF f_law_are_mates)) (c_law_rest : Cal P w K mg base 2 "_law_rest" (spF f_law_rest)) (c_law_beginning : Cal P w K mg base 4 "_law_beginning" (spF f_law_beginning)) (c_law_agreeing : Cal P w K mg base 1 "_law_agreeing" (spF f_law_agreeing)) : Cal P w K mg base 5 "_law_holds" (spF f_law_holds) := by
  refine cal_fs F sc_law_holds bd_law_holds (fun z => by first | rfl | (cases z <;> rfl)) (fun f cdv A outer s H E hr => ⟨_, (pss_cons (ps_par (i := 7) (j := 8) rfl sc_law_holds.nd rfl rfl (by decide) rfl rfl (pa_cons (pe_cal c_law_weight hr (by decide : (1 : Nat) ≤ 4) rfl (pa_cons (pv 3) (pa_cons (pv 5) pa_nil))) (pa_cons (pe_cal c_law_weight hr (by decide : (1 : Nat) ≤ 4) rfl (pa_cons (pv 4) (pa_cons (pv 5) pa_nil))) pa_nil)) (by rfl))
    (pss_cons (ps_if (pt_cmpR op_eq (pv 0) pe_str (nomark _)) (pss_cons (ps_ret pe_bl)
    pss_nil) pss_nil)
    (pss_cons (ps_if (pt_not (pt_val (pe_cal c_law_are_mates hr (by decide : (2 : Nat) ≤ 4) rfl (pa_cons (pv 1) (pa_cons (pv 2) (pa_cons (pv 7) (pa_cons (pv 8) pa_nil))))))) (pss_cons (ps_ret pe_bl)
    pss_nil) pss_nil)
    (pss_cons (ps_set (i := 9) sc_law_holds.nd rfl (Or.inl rfl) (pe_cal c_law_need hr (by decide : (1 : Nat) ≤ 4) rfl (pa_cons (pv 1) (pa_cons (pv 2) (pa_cons (pv 7) (pa_cons (pv 8) pa_nil))))))
    (pss_cons (ps_if (pt_cmpR op_eq (pv 0) pe_str (nomark _)) (pss_cons (ps_ret (pe_cmpR op_ge (pe_cal c_law_agreeing hr (by decide : (1 : Nat) ≤ 4) rfl (pa_cons (pv 3) (pa_cons (pv 4) (pa_cons (pv 6) pa_nil)))) (pe_op op_add (pe_op op_sub (pe_op op_sub (pe_callB (k_len K rfl) (by rfl) T.len PySem.boot_len (pa_cons (pv 6) pa_nil)) (pv 7)) (pv 8)) (pe_op op_mulW pe_int (pv 9))) (nomark _)))
    pss_nil) pss_nil)
    (pss_cons (ps_if (pt_cmpR op_eq (pv 0) pe_str (nomark _)) (pss_cons (ps_ret pe_bl)
    pss_nil) pss_nil)
    (pss_cons (ps_set (i := 10) sc_law_holds.nd rfl (Or.inl rfl) (pe_cal c_law_beginning hr (by decide : (4 : Nat) ≤ 4) rfl (pa_cons (pv 1) (pa_cons (pv 2) (pa_cons (pv 3) (pa_cons (pv 5) (pa_cons (pv 6) pa_nil)))))))
    (pss_cons (ps_set (i := 11) sc_law_holds.nd rfl (Or.inr rfl) (pe_cal c_law_beginning hr (by decide : (4 : Nat) ≤ 4) rfl (pa_cons (pv 1) (pa_cons (pv 2) (pa_cons (pv 4) (pa_cons (pv 5) (pa_cons (pv 6) pa_nil)))))))
    (pss_cons (ps_if (pt_cmpR (k_eqD K rfl hr.units) (pe_lc (own := [("_law_word", 12)]) (g := (gName 12)) rfl sc_law_holds.nd (pi_list (pv 10)) (blkOk_by (N := ["_law_way", "_law_kind_here", "_law_least_here", "_law_one", "_law_other", "_law_weights_here", "_law_by", "_law_a", "_law_b", "_law_wants", "_law_first", "_law_second", "_law_word"]) (sc := defScope s_law_holds) (by decide +kernel)) (fun _ _ _ _ _ => (pg_name (i := 12) sc_law_holds.nd rfl (Or.inl rfl))) (fun _ _ _ _ _ => pts_one (pt_cmpR (k_in K rfl) (pv 12) (pv 11) (by rfl))) (fun _ _ _ _ _ => (pv 12))) (pe_lst pa_nil) (nomark _)) (pss_cons (ps_ret pe_bl)
    pss_nil) pss_nil)
    (pss_cons (ps_if (pt_cmpR op_eq (pv 0) pe_str (nomark _)) (pss_cons (ps_ret pe_bl)
    pss_nil) pss_nil)
    (pss_cons (ps_set (i := 12) sc_law_holds.nd rfl (Or.inl rfl) (pe_ix (k_ixL K rfl) (pe_lc (own := [("_law_word", 12)]) (g := (gName 12)) rfl sc_law_holds.nd (pi_list (pv 6)) (blkOk_by (N := ["_law_way", "_law_kind_here", "_law_least_here", "_law_one", "_law_other", "_law_weights_here", "_law_by", "_law_a", "_law_b", "_law_wants", "_law_first", "_law_second", "_law_word"]) (sc := defScope s_law_holds) (by decide +kernel)) (fun _ _ _ _ _ => (pg_name (i := 12) sc_law_holds.nd rfl (Or.inl rfl))) (fun _ _ _ _ _ => pts_one (PW.pt (pw_and (pt_cmpR (k_in K rfl) (pv 12) (pv 3) (by rfl)) (pw_and1 (pt_cmpR (k_in K rfl) (pv 12) (pv 4) (by rfl)))))) (fun _ _ _ _ _ => (pv 12))) pe_int (fun _ _ => rfl)))
    (pss_cons (ps_ret (pe_cmpR op_ge (pe_callB (call_min2 rfl) (by rfl) T.min (by decide +kernel) (pa_cons (pe_cal c_law_rest hr (by decide : (2 : Nat) ≤ 4) rfl (pa_cons (pv 3) (pa_cons (pv 5) (pa_cons (pv 6) (pa_cons (pv 12) pa_nil))))) (pa_cons (pe_cal c_law_rest hr (by decide : (2 : Nat) ≤ 4) rfl (pa_cons (pv 4) (pa_cons (pv 5) (pa_cons (pv 6) (pa_cons (pv 12) pa_nil))))) pa_nil))) (pv 9) (nomark _)))
    pss_nil)))))))))))), ?_⟩)
  rintro ⟨by', k, ⟨t, b⟩, l, W, ⟨i, j⟩⟩ ⟨h1, h2, h3, hi, hj, h4⟩
  dsimp only at h1 h2 h3 h4 hi hj ⊢
  have oi := h2.gt hi
  have oj := h2.gt hj
  have wi := wt_wg h3 oi.l
  have wj := wt_wg h3 oj.l
  refine go_par (ea_cons (ev_call (ea_cons (ev_var rfl) (ea_cons (ev_var rfl) ea_nil)) ⟨(gt l i, W), (by have := oi.l; show (gt l i).length ≤ _; omega), rfl, rfl⟩) (ea_cons (ev_call (ea_cons (ev_var rfl) (ea_cons (ev_var rfl) ea_nil)) ⟨(gt l j, W), (by have := oj.l; show (gt l j).length ≤ _; omega), rfl, rfl⟩) ea_nil)) ?_
  refine go_if (et_test (ev_op (ev_var rfl) ev_str rv_eqS)) (fun hb => ?_) (fun hb => ?_)
  · obtain rfl := wayS_all hb
    exact go_assoc (go_ret ev_bl)
  obtain ⟨ps, rfl⟩ : ∃ ps, by' = some ps := by
    cases by' with
    | none => exact absurd (show decide (("all" : Str) = "all") = false from hb) (by decide)
    | some ps => exact ⟨ps, rfl⟩
  have hp := h4 ps rfl
  refine go_nextz ?_
  refine go_if (et_not (et_B (ev_call (ea_cons (ev_var rfl) (ea_cons (ev_var rfl) (ea_cons (ev_var rfl) (ea_cons (ev_var rfl) ea_nil)))) ⟨(k, (t, b), wt (gt l i) W, wt (gt l j) W), ⟨h1, wi, wj⟩, rfl, rfl⟩))) (fun hb2 => ?_) (fun hb2 => ?_)
  · refine go_assoc (go_ret (ev_bl.is ?_))
    have hb2 : areMates k t b (wt (gt l i) W) (wt (gt l j) W) = false := by simpa using hb2
    show _ = dB (areMates k t b (wt (gt l i) W) (wt (gt l j) W) && _)
    rw [hb2]
    rfl
  have hb2 : areMates k t b (wt (gt l i) W) (wt (gt l j) W) = true := by simpa using hb2
  refine go_nextz ?_
  refine go_asg (ev_call (ea_cons (ev_var rfl) (ea_cons (ev_var rfl) (ea_cons (ev_var rfl) (ea_cons (ev_var rfl) ea_nil)))) ⟨(k, (t, b), wt (gt l i) W, wt (gt l j) W), ⟨h1, wi, wj⟩, rfl, rfl⟩) ?_
  refine go_if (et_test (ev_op (ev_var rfl) ev_str rv_eqS)) (fun hb3 => ?_) (fun hb3 => ?_)
  · refine go_assoc (go_ret ((ev_op (ev_call (ea_cons (ev_var rfl) (ea_cons (ev_var rfl) (ea_cons (ev_var rfl) ea_nil))) ⟨(gt l i, gt l j, ps), ⟨by have := hp.n; show ps.length ≤ _; omega, fun p hp' => hp.part hp'⟩, rfl, rfl⟩) (ev_op (ev_op (ev_op (ev_cb (ea_cons (ev_var rfl) ea_nil) rc_len) (ev_var rfl) rv_sub) (ev_var rfl) rv_sub) (ev_op ev_int (ev_var rfl) (rv_mul (Bt.cm (m := 1) ⟨by decide, by decide⟩ (need_bt h1 wi wj)))) rv_add) rv_ge).is ?_))
    show _ = dB (areMates k t b (wt (gt l i) W) (wt (gt l j) W) && partsHold k t b (gt l i) (gt l j) W ps)
    rw [hb2, Bool.true_and]
    unfold partsHold roomN
    rw [agN_len, List.length_map]
    congr 1
    rw [decide_eq_decide]
    dsimp only
    omega
  · exact absurd (show decide (("parts" : Str) = "parts") = false from hb3) (by decide)
def f_law_held := Fs (fun x : Option (List (List Str)) × Kd × (Int × Int) × List (List Str) × Wt => Lst x.2.2.1.1 x.2.2.1.2 ∧ OkLot x.2.2.2.1 ∧ OkW x.2.2.2.2 ∧ ∀ ps, x.1 = some ps → OkPs x.2.2.2.1 ps) (fun x => [dS (wayS x.1), dK x.2.1, d2 x.2.2.1, dLot x.2.2.2.1, dWt x.2.2.2.2, byD x.1])
  (fun x => dL (((IJ x.2.2.2.1.length).filter (keepsB x.2.1 x.2.2.1.1 x.2.2.1.2 x.2.2.2.1 x.2.2.2.2 x.1)).map dNN))
theorem sc_law_held : FnScope ["_law_way", "_law_kind_here", "_law_least_here", "_law_lot_here", "_law_weights_here", "_law_by", "_law_got", "_law_i", "_law_j"] ["_law_way", "_law_kind_here", "_law_least_here", "_law_lot_here", "_law_weights_here", "_law_by"] (defScope s_law_held) := ⟨rfl, rfl, rfl, by decide +kernel, rfl, by decide +kernel, by decide +kernel⟩
theorem bd_law_held : BindOk "_law_held" s_law_held ["_law_way", "_law_kind_here", "_law_least_here", "_law_lot_here", "_law_weights_here", "_law_by"] := fun _ _ _ _ _ _ us hl => match us, hl with | [_, _, _, _, _, _], _ => rfl
theorem ok_law_held (T : Txt K mg kA signsZ kindsL) (F : DefF K mg "_law_held" s_law_held) (c_law_holds : Cal P w K mg base 5 "_law_holds" (spF f_law_holds)) : Cal P w K mg base 6 "_law_held" (spF f_law_held) := by
  refine cal_fs F sc_law_held bd_law_held (fun z => by first | rfl | (cases z <;> rfl)) (fun f cdv A outer s H E hr => ⟨_, (pss_cons (ps_set (i := 6) sc_law_held.nd rfl (Or.inl rfl) (pe_lst pa_nil))
    (pss_cons (ps_for PassesOwn.never rfl (pi_range1 rfl T.range (pa_cons (pe_callB (k_len K rfl) (by rfl) T.len PySem.boot_len (pa_cons (pv 3) pa_nil)) pa_nil)) (pg_name (i := 7) sc_law_held.nd rfl (Or.inl rfl)) (pss_cons (ps_for PassesOwn.never rfl (pi_range2 rfl T.range (pa_cons (pe_op op_add (pv 7) pe_int) (pa_cons (pe_callB (k_len K rfl) (by rfl) T.len PySem.boot_len (pa_cons (pv 3) pa_nil)) pa_nil))) (pg_name (i := 8) sc_law_held.nd rfl (Or.inl rfl)) (pss_cons (ps_if (pt_val (pe_cal c_law_holds hr (by decide : (5 : Nat) ≤ 5) rfl (pa_cons (pv 0) (pa_cons (pv 1) (pa_cons (pv 2) (pa_cons (pe_ix (k_ixL K rfl) (pv 3) (pv 7) (fun _ _ => rfl)) (pa_cons (pe_ix (k_ixL K rfl) (pv 3) (pv 8) (fun _ _ => rfl)) (pa_cons (pv 4) (pa_cons (pv 5) pa_nil))))))))) (pss_cons (ps_expr (pe_bm PySem.F.plainAttrs_list PySem.F.slot_list_append PySem.F.type_list_append mt_append (pv 6) (pa_cons (pe_tup (pa_cons (pv 7) (pa_cons (pv 8) pa_nil))) pa_nil)))
    pss_nil) pss_nil)
    pss_nil))
    pss_nil))
    (pss_cons (ps_ret (pv 6))
    pss_nil))), ?_⟩)
  rintro ⟨by', k, ⟨t, b⟩, l, W⟩ ⟨h1, h2, h3, h4⟩
  dsimp only at h1 h2 h3 h4 ⊢
  have hn := h2.n
  let kb := keepsB k t b l W by'
  let F : Nat → List (Nat × Nat) := fun i => ((List.range (l.length - (i + 1))).filter fun m => kb (i, i + 1 + m)).map fun m => (i, i + 1 + m)
  refine go_asgN (en_lst ea_nil) ?_
  refine go_for _ _ _ _ (fun pre => [some (dS (wayS by')), some (dK k), some (d2 (t, b)), some (dLot l), some (dWt W), some (byD by'), none, none, none]) (fun pre => some (oL 6 ((pre.flatMap F).map dNN))) (wi_range1N (n := l.length) (ea_cons ((ev_cb (ea_cons (ev_var rfl) ea_nil) rc_len).is (by rw [List.length_map])) ea_nil) (by omega)) (fun _ => tg_name) (by walk_at "mu le") rfl (fun pre i post e => ?_) ?_ ok_k
  · obtain ⟨e1, e2⟩ := range_len e
    have pl : (pre.flatMap F).length ≤ 13 * 13 := by
      refine Nat.le_trans (fm_len (n := 13) fun a _ => Nat.le_trans fil_le (by rw [List.length_range]; omega)) ?_
      exact Nat.mul_le_mul_right 13 (by omega)
    refine go_for _ _ _ _ (fun pre2 => [some (dS (wayS by')), some (dK k), some (d2 (t, b)), some (dLot l), some (dWt W), some (byD by'), none, some (dI i), none]) (fun pre2 => some (oL 6 ((pre.flatMap F ++ (pre2.filter fun m => kb (i, i + 1 + m)).map fun m => (i, i + 1 + m)).map dNN))) (wi_range2N (m := i + 1) (n := l.length) (ea_cons (ev_op (ev_var rfl) ev_int rv_add) (ea_cons ((ev_cb (ea_cons (ev_var rfl) ea_nil) rc_len).is (by rw [List.length_map])) ea_nil)) (by omega)) (fun _ => tg_name) (by walk_at "mu le") (by rw [List.filter_nil, List.map_nil, List.append_nil]) (fun pre2 m post2 e' => ?_) ?_ ok_k
    · obtain ⟨q1, q2⟩ := range_len e'
      have hj : i + 1 + m < l.length := by omega
      refine go_if (b := kb (i, i + 1 + m)) (et_B (ev_call (ea_cons (ev_var rfl) (ea_cons (ev_var rfl) (ea_cons (ev_var rfl) (ea_cons (ev_op (ev_var rfl) (ev_var rfl) (rv_ixL (atI_gt dLS e2))) (ea_cons (ev_op (ev_var rfl) (ev_var rfl) (rv_ixL (atI_gt dLS hj))) (ea_cons (ev_var rfl) (ea_cons (ev_var rfl) ea_nil))))))) ⟨(by', k, (t, b), l, W, (i, i + 1 + m)), ⟨h1, h2, h3, e2, hj, h4⟩, rfl, rfl⟩)) (fun hb => ?_) (fun hb => ?_)
      · refine go_assoc (go_app (ev_tup (ea_cons (ev_var rfl) (ea_cons (ev_var rfl) ea_nil))) ?_ ?_)
        · rw [List.length_map, List.length_append]
          have := fil_le (P := fun m => kb (i, i + 1 + m)) (G := fun m => (i, i + 1 + m)) (pre := pre2)
          omega
        · refine go_nextz (go_nextz (go_nextO (by walk_at "mu le") ?_))
          rw [fil_snoc (P := fun m => kb (i, i + 1 + m)) hb, ← List.append_assoc]
          exact ol_snoc rfl
      · refine go_nextz (go_nextO (by walk_at "mu le") ?_)
        rw [fil_skip (P := fun m => kb (i, i + 1 + m)) hb]
    · refine go_nextO (by walk_at "mu le") ?_
      rw [fm_snoc]
  · refine go_tell ?_
    refine go_ret ((ev_var rfl).is ?_)
    have e := IJ_fm l.length kb fun p => p
    rw [List.map_id'' (fun _ => rfl)] at e
    rw [← e]
noncomputable def endF (k : Kd) (t b : Int) (l : List (List Str)) (W : Wt) (ord : List Str) (c : Int) (i : Nat) : Nat :=
  (bgn k t b (gt l i) W ord).length + (mixF c i % (((gt l i).length : Int) - (bgn k t b (gt l i) W ord).length + 1)).toNat
noncomputable def endsF (k : Kd) (t b : Int) (l : List (List Str)) (W : Wt) (ord : List Str) (c : Int) : List Nat := (List.range l.length).map (endF k t b l W ord c)
theorem bgn_le {k : Kd} {t b : Int} {s : List Str} {W : Wt} {ord : List Str} (h : OkS ord) : (bgn k t b s W ord).length ≤ s.length := by
  unfold bgn
  split
  · exact Nat.zero_le _
  · rw [List.length_map]
    have h1 := List.length_filter_le (fun i => decide (leastNeed k t b (wt s W) ≤ wt ((ordF s ord).drop i) W)) (List.range (ordF s ord).length)
    rw [List.length_range] at h1
    have h2 : (ordF s ord).length ≤ s.length := nd_len (h.nd.filter _) fun x hx => of_decide_eq_true (List.mem_filter.mp hx).2
    omega
theorem endF_bd {k : Kd} {t b : Int} {l : List (List Str)} {W : Wt} {ord : List Str} {c : Int} (h : OkS ord) (i : Nat) : (bgn k t b (gt l i) W ord).length ≤ endF k t b l W ord c i ∧ endF k t b l W ord c i ≤ (gt l i).length := by
  unfold endF
  have h1 := bgn_le (k := k) (t := t) (b := b) (s := gt l i) (W := W) h
  generalize (bgn k t b (gt l i) W ord).length = m at h1 ⊢
  have h2 := mixF_mod c i (n := ((gt l i).length : Int) - m + 1) (by omega)
  omega
theorem gt_range {α : Type} [Inhabited α] (f : Nat → α) {n i : Nat} (h : i < n) : gt ((List.range n).map f) i = f i := by
  rw [gt, List.getElem?_map, List.getElem?_range h]
  rfl
theorem endsF_ok {k : Kd} {t b : Int} {l : List (List Str)} {W : Wt} {ord : List Str} {c : Int} (h : OkS ord) : OkEnds k t b l W ord (endsF k t b l W ord c) := ⟨by
  unfold endsF
  rw [List.length_map, List.length_range], fun i hi => by
  unfold endsF
  rw [gt_range _ hi]
  exact endF_bd h i⟩
def f_law_ends := Fs (fun x : Kd × (Int × Int) × List (List Str) × Wt × List Str × Int => Lst x.2.1.1 x.2.1.2 ∧ OkLot x.2.2.1 ∧ OkW x.2.2.2.1 ∧ OkS x.2.2.2.2.1) (fun x => [dK x.1, d2 x.2.1, dLot x.2.2.1, dWt x.2.2.2.1, dLS x.2.2.2.2.1, dI x.2.2.2.2.2]) (fun x => dEs (endsF x.1 x.2.1.1 x.2.1.2 x.2.2.1 x.2.2.2.1 x.2.2.2.2.1 x.2.2.2.2.2))
theorem sc_law_ends : FnScope ["_law_kind_here", "_law_least_here", "_law_lot_here", "_law_weights_here", "_law_order_here", "_law_cell", "_law_ends_here", "_law_k", "_law_words", "_law_few"] ["_law_kind_here", "_law_least_here", "_law_lot_here", "_law_weights_here", "_law_order_here", "_law_cell"] (defScope s_law_ends) := ⟨rfl, rfl, rfl, by decide +kernel, rfl, by decide +kernel, by decide +kernel⟩
theorem bd_law_ends : BindOk "_law_ends" s_law_ends ["_law_kind_here", "_law_least_here", "_law_lot_here", "_law_weights_here", "_law_order_here", "_law_cell"] := fun _ _ _ _ _ _ us hl => match us, hl with | [_, _, _, _, _, _], _ => rfl
theorem ok_law_ends (T : Txt K mg kA signsZ kindsL) (F : DefF K mg "_law_ends" s_law_ends) (c_law_mix : Cal P w K mg base 1 "_law_mix" (spF f_law_mix)) (c_law_beginning : Cal P w K mg base 4 "_law_beginning" (spF f_law_beginning)) : Cal P w K mg base 5 "_law_ends" (spF f_law_ends) := by
  refine cal_fs F sc_law_ends bd_law_ends (fun z => by first | rfl | (cases z <;> rfl)) (fun f cdv A outer s H E hr => ⟨_, (pss_cons (ps_set (i := 6) sc_law_ends.nd rfl (Or.inl rfl) (pe_lst pa_nil))
    (pss_cons (ps_for PassesOwn.never rfl (pi_enum (by rfl) T.enumerate (pa_cons (pv 2) pa_nil)) (pg_tup rfl (pgs_cons (pg_name (i := 7) sc_law_ends.nd rfl (Or.inl rfl)) (pgs_cons (pg_name (i := 8) sc_law_ends.nd rfl (Or.inl rfl)) pgs_nil))) (pss_cons (ps_set (i := 9) sc_law_ends.nd rfl (Or.inl rfl) (pe_callB (k_len K rfl) (by rfl) T.len PySem.boot_len (pa_cons (pe_cal c_law_beginning hr (by decide : (4 : Nat) ≤ 4) rfl (pa_cons (pv 0) (pa_cons (pv 1) (pa_cons (pv 8) (pa_cons (pv 3) (pa_cons (pv 4) pa_nil)))))) pa_nil)))
    (pss_cons (ps_expr (pe_bm PySem.F.plainAttrs_list PySem.F.slot_list_append PySem.F.type_list_append mt_append (pv 6) (pa_cons (pe_op op_add (pv 9) (pe_op op_mod (pe_cal c_law_mix hr (by decide : (1 : Nat) ≤ 4) rfl (pa_cons (pv 5) (pa_cons (pv 7) pa_nil))) (pe_op op_add (pe_op op_sub (pe_callB (k_len K rfl) (by rfl) T.len PySem.boot_len (pa_cons (pv 8) pa_nil)) (pv 9)) pe_int))) pa_nil)))
    pss_nil)))
    (pss_cons (ps_ret (pv 6))
    pss_nil))), ?_⟩)
  rintro ⟨k, ⟨t, b⟩, l, W, ord, c⟩ ⟨h1, h2, h3, h4⟩
  dsimp only at h1 h2 h3 h4 ⊢
  have hn := h2.n
  refine go_asgN (en_lst ea_nil) ?_
  refine go_for _ _ _ _ (fun pre => [some (dK k), some (d2 (t, b)), some (dLot l), some (dWt W), some (dLS ord), some (dI c), none, none, none, none]) (fun pre => some (oL 6 ((pre.map (endF k t b l W ord c)).map fun e : Nat => dI (e : Int)))) (wi_enumR (ea_cons (ev_var rfl) ea_nil)) (fun _ => tg_tup2) (by walk_at "mu le") rfl (fun pre i post e => ?_) ?_ ok_k
  · obtain ⟨e1, e2⟩ := range_len e
    have bl := bgn_le (k := k) (t := t) (b := b) (s := gt l i) (W := W) h4
    have m1 := mixF_mod c i (n := ((gt l i).length : Int) - (bgn k t b (gt l i) W ord).length + 1) (by omega)
    refine go_asg (d := dI ((bgn k t b (gt l i) W ord).length : Int)) ((ev_cb (ea_cons (ev_call (ea_cons (ev_var rfl) (ea_cons (ev_var rfl) (ea_cons (ev_var rfl) (ea_cons (ev_var rfl) (ea_cons (ev_var rfl) ea_nil))))) ⟨(k, (t, b), gt l i, W, ord), ⟨h1, h2.gt e2, h3, h4⟩, rfl, rfl⟩) ea_nil) rc_len).is (by rw [List.length_map])) ?_
    refine go_app ((ev_op (ev_var rfl) (ev_op (ev_call (ea_cons (ev_var rfl) (ea_cons (ev_var rfl) ea_nil)) ⟨(c, i), (by show i ≤ 1000; omega), rfl, rfl⟩) (ev_op (ev_op ((ev_cb (ea_cons (ev_var rfl) ea_nil) rc_len).is (by rw [List.length_map])) (ev_var rfl) rv_sub) ev_int rv_add) (rv_mod (by omega))) rv_add).is (show _ = dI ((endF k t b l W ord c i : Nat) : Int) by
        unfold endF
        congr 1
        dsimp only
        omega)) (by rw [List.length_map, List.length_map]; omega) ?_
    refine go_nextO (by walk_at "mu le") ?_
    rw [List.map_append]
    exact ol_snoc rfl
  · exact go_tell (go_ret (ev_var rfl))
def f_law_by_ends := Fs (fun x : Kd × (Int × Int) × List (List Str) × Wt × List Str × List Nat => Lst x.2.1.1 x.2.1.2 ∧ OkLot x.2.2.1 ∧ OkW x.2.2.2.1 ∧ OkS x.2.2.2.2.1 ∧ x.2.2.2.2.2.length = x.2.2.1.length) (fun x => [dK x.1, d2 x.2.1, dLot x.2.2.1, dWt x.2.2.2.1, dLS x.2.2.2.2.1, dEs x.2.2.2.2.2])
  (fun x => dL (((IJ x.2.2.1.length).filter (endsB x.1 x.2.1.1 x.2.1.2 x.2.2.1 x.2.2.2.1 x.2.2.2.2.1 x.2.2.2.2.2)).map dNN))
theorem alike_com (s o : List Str) : (!(s.filter fun x => decide (x ∈ o)).isEmpty) = alike s o := by
  unfold alike
  induction s with
  | nil => rfl
  | cons x s ih =>
    by_cases h : decide (x ∈ o) = true
    · rw [List.filter_cons_of_pos (p := fun x => decide (x ∈ o)) h, List.any_cons, h]
      rfl
    · have h2 : decide (x ∈ o) = false := by simpa using h
      rw [List.filter_cons_of_neg (p := fun x => decide (x ∈ o)) h, List.any_cons, h2, Bool.false_or, ih]
theorem sc_law_by_ends : FnScope ["_law_kind_here", "_law_least_here", "_law_lot_here", "_law_weights_here", "_law_order_here", "_law_ends_here", "_law_got", "_law_i", "_law_j", "_law_first", "_law_second", "_law_near", "_law_a", "_law_b", "_law_word"] ["_law_kind_here", "_law_least_here", "_law_lot_here", "_law_weights_here", "_law_order_here", "_law_ends_here"] (defScope s_law_by_ends) := ⟨rfl, rfl, rfl, by decide +kernel, rfl, by decide +kernel, by decide +kernel⟩
theorem bd_law_by_ends : BindOk "_law_by_ends" s_law_by_ends ["_law_kind_here", "_law_least_here", "_law_lot_here", "_law_weights_here", "_law_order_here", "_law_ends_here"] := fun _ _ _ _ _ _ us hl => match us, hl with | [_, _, _, _, _, _], _ => rfl
theorem ok_law_by_ends (T : Txt K mg kA signsZ kindsL) (F : DefF K mg "_law_by_ends" s_law_by_ends) (c_law_weight : Cal P w K mg base 1 "_law_weight" (spF f_law_weight)) (c_law_are_mates : Cal P w K mg base 2 "_law_are_mates" (spF f_law_are_mates)) (c_law_in_order : Cal P w K mg base 1 "_law_in_order" (spF f_law_in_order)) : Cal P w K mg base 3 "_law_by_ends" (spF f_law_by_ends) := by
  refine cal_fs F sc_law_by_ends bd_law_by_ends (fun z => by first | rfl | (cases z <;> rfl)) (fun f cdv A outer s H E hr => ⟨_, (pss_cons (ps_set (i := 6) sc_law_by_ends.nd rfl (Or.inl rfl) (pe_lst pa_nil))
    (pss_cons (ps_for PassesOwn.never rfl (pi_range1 rfl T.range (pa_cons (pe_callB (k_len K rfl) (by rfl) T.len PySem.boot_len (pa_cons (pv 2) pa_nil)) pa_nil)) (pg_name (i := 7) sc_law_by_ends.nd rfl (Or.inl rfl)) (pss_cons (ps_for PassesOwn.never rfl (pi_range2 rfl T.range (pa_cons (pe_op op_add (pv 7) pe_int) (pa_cons (pe_callB (k_len K rfl) (by rfl) T.len PySem.boot_len (pa_cons (pv 2) pa_nil)) pa_nil))) (pg_name (i := 8) sc_law_by_ends.nd rfl (Or.inl rfl)) (pss_cons (ps_set (i := 9) sc_law_by_ends.nd rfl (Or.inl rfl) (pe_slice (k_slL K rfl) (pe_cal c_law_in_order hr (by decide : (1 : Nat) ≤ 2) rfl (pa_cons (pe_ix (k_ixL K rfl) (pv 2) (pv 7) (fun _ _ => rfl)) (pa_cons (pv 4) pa_nil))) po_none (po_some (pe_ix (k_ixL K rfl) (pv 5) (pv 7) (fun _ _ => rfl)))))
    (pss_cons (ps_set (i := 10) sc_law_by_ends.nd rfl (Or.inr rfl) (pe_slice (k_slL K rfl) (pe_cal c_law_in_order hr (by decide : (1 : Nat) ≤ 2) rfl (pa_cons (pe_ix (k_ixL K rfl) (pv 2) (pv 8) (fun _ _ => rfl)) (pa_cons (pv 4) pa_nil))) po_none (po_some (pe_ix (k_ixL K rfl) (pv 5) (pv 8) (fun _ _ => rfl)))))
    (pss_cons (ps_set (i := 11) sc_law_by_ends.nd rfl (Or.inl rfl) (pe_cmpR (k_neD K rfl hr.units) (pe_lc (own := [("_law_word", 14)]) (g := (gName 14)) rfl sc_law_by_ends.nd (pi_list (pv 9)) (blkOk_by (N := ["_law_kind_here", "_law_least_here", "_law_lot_here", "_law_weights_here", "_law_order_here", "_law_ends_here", "_law_got", "_law_i", "_law_j", "_law_first", "_law_second", "_law_near", "_law_a", "_law_b", "_law_word"]) (sc := defScope s_law_by_ends) (by decide +kernel)) (fun _ _ _ _ _ => (pg_name (i := 14) sc_law_by_ends.nd rfl (Or.inl rfl))) (fun _ _ _ _ _ => pts_one (pt_cmpR (k_in K rfl) (pv 14) (pv 10) (by rfl))) (fun _ _ _ _ _ => (pv 14))) (pe_lst pa_nil) (nomark _)))
    (pss_cons (ps_par (i := 12) (j := 13) rfl sc_law_by_ends.nd rfl rfl (by decide) rfl rfl (pa_cons (pe_cal c_law_weight hr (by decide : (1 : Nat) ≤ 2) rfl (pa_cons (pe_ix (k_ixL K rfl) (pv 2) (pv 7) (fun _ _ => rfl)) (pa_cons (pv 3) pa_nil))) (pa_cons (pe_cal c_law_weight hr (by decide : (1 : Nat) ≤ 2) rfl (pa_cons (pe_ix (k_ixL K rfl) (pv 2) (pv 8) (fun _ _ => rfl)) (pa_cons (pv 3) pa_nil))) pa_nil)) (by rfl))
    (pss_cons (ps_if (PW.pt (pw_and (pt_val (pv 11)) (pw_and1 (pt_val (pe_cal c_law_are_mates hr (by decide : (2 : Nat) ≤ 2) rfl (pa_cons (pv 0) (pa_cons (pv 1) (pa_cons (pv 12) (pa_cons (pv 13) pa_nil))))))))) (pss_cons (ps_expr (pe_bm PySem.F.plainAttrs_list PySem.F.slot_list_append PySem.F.type_list_append mt_append (pv 6) (pa_cons (pe_tup (pa_cons (pv 7) (pa_cons (pv 8) pa_nil))) pa_nil)))
    pss_nil) pss_nil)
    pss_nil))))))
    pss_nil))
    (pss_cons (ps_ret (pv 6))
    pss_nil))), ?_⟩)
  rintro ⟨k, ⟨t, b⟩, l, W, ord, es⟩ ⟨h1, h2, h3, h4, h5⟩
  dsimp only at h1 h2 h3 h4 h5 ⊢
  have hn := h2.n
  let fi : Nat → List Str := fun i => (ordF (gt l i) ord).take (gt es i)
  let kb := endsB k t b l W ord es
  let F : Nat → List (Nat × Nat) := fun i => ((List.range (l.length - (i + 1))).filter fun m => kb (i, i + 1 + m)).map fun m => (i, i + 1 + m)
  refine go_asgN (en_lst ea_nil) ?_
  refine go_for _ _ _ _ (fun pre => [some (dK k), some (d2 (t, b)), some (dLot l), some (dWt W), some (dLS ord), some (dEs es), none, none, none, none, none, none, none, none, none]) (fun pre => some (oL 6 ((pre.flatMap F).map dNN))) (wi_range1N (n := l.length) (ea_cons ((ev_cb (ea_cons (ev_var rfl) ea_nil) rc_len).is (by rw [List.length_map])) ea_nil) (by omega)) (fun _ => tg_name) (by walk_at "mu le") rfl (fun pre i post e => ?_) ?_ ok_k
  · obtain ⟨e1, e2⟩ := range_len e
    have pl : (pre.flatMap F).length ≤ 13 * 13 := by
      refine Nat.le_trans (fm_len (n := 13) fun a _ => Nat.le_trans fil_le (by rw [List.length_range]; omega)) ?_
      exact Nat.mul_le_mul_right 13 (by omega)
    refine go_for _ _ _ _ (fun pre2 => [some (dK k), some (d2 (t, b)), some (dLot l), some (dWt W), some (dLS ord), some (dEs es), none, some (dI i), none, none, none, none, none, none, none]) (fun pre2 => some (oL 6 ((pre.flatMap F ++ (pre2.filter fun m => kb (i, i + 1 + m)).map fun m => (i, i + 1 + m)).map dNN))) (wi_range2N (m := i + 1) (n := l.length) (ea_cons (ev_op (ev_var rfl) ev_int rv_add) (ea_cons ((ev_cb (ea_cons (ev_var rfl) ea_nil) rc_len).is (by rw [List.length_map])) ea_nil)) (by omega)) (fun _ => tg_name) (by walk_at "mu le") (by rw [List.filter_nil, List.map_nil, List.append_nil]) (fun pre2 m post2 e' => ?_) ?_ ok_k
    · obtain ⟨q1, q2⟩ := range_len e'
      have hj : i + 1 + m < l.length := by omega
      have oi := h2.gt e2
      have oj := h2.gt hj
      have ei : i < es.length := by omega
      have ej : i + 1 + m < es.length := by omega
      have fok : ∀ i, OkS (fi i) := fun i => by
        have h6 := ordF_ok (s := gt l i) h4
        have sub := List.take_sublist (gt es i) (ordF (gt l i) ord)
        exact ⟨h6.nd.sublist sub, fun x hx => h6.w x (sub.subset hx), Nat.le_trans sub.length_le h6.l⟩
      have fl := (fok i).l
      have cutE : ∀ i, cutD ((ordF (gt l i) ord).map dS) none (some ((gt es i : Nat) : Int)) = (fi i).map dS := fun i => by
        rw [cut_to (by omega)]; exact (List.map_take ..).symm
      refine go_asg (d := dLS (fi i)) ((en_slL (ev_call (ea_cons (ev_op (ev_var rfl) (ev_var rfl) (rv_ixL (atI_gt dLS e2))) (ea_cons (ev_var rfl) ea_nil)) ⟨(gt l i, ord), (by have := h4.l; show ord.length ≤ _; omega), rfl, rfl⟩) eo_none (eo_some (ev_op (ev_var rfl) (ev_var rfl) (rv_ixL (atI_gt (fun e : Nat => dI (e : Int)) ei))))).ev.is (congrArg dL (cutE i))) ?_
      refine go_asg (d := dLS (fi (i + 1 + m))) ((en_slL (ev_call (ea_cons (ev_op (ev_var rfl) (ev_var rfl) (rv_ixL (atI_gt dLS hj))) (ea_cons (ev_var rfl) ea_nil)) ⟨(gt l (i + 1 + m), ord), (by have := h4.l; show ord.length ≤ _; omega), rfl, rfl⟩) eo_none (eo_some (ev_op (ev_var rfl) (ev_var rfl) (rv_ixL (atI_gt (fun e : Nat => dI (e : Int)) ej))))).ev.is (congrArg dL (cutE (i + 1 + m)))) ?_
      refine go_asg (d := dB (alike (fi i) (fi (i + 1 + m)))) ((ev_op ((en_lc _ _ _ _ _ dS (wi_list (ev_var rfl)) (fun _ => tg_name) (fun x hx => (et_test (ev_op (ev_var rfl) (ev_var rfl) rv_in))) (fun x hx hf => (ev_var rfl)) (by omega) (by decide))).ev ((en_lst ea_nil)).ev (rv_neD (dd_ls _) dd_nil (shp_ls fun x hx => (fok i).w x (List.mem_filter.mp hx).1) shp_nil (eqv_lnil _))).is (congrArg dB (alike_com (fi i) (fi (i + 1 + m))))) ?_
      refine go_par (ea_cons (ev_call (ea_cons (ev_op (ev_var rfl) (ev_var rfl) (rv_ixL (atI_gt dLS e2))) (ea_cons (ev_var rfl) ea_nil)) ⟨(gt l i, W), (by have := oi.l; show (gt l i).length ≤ _; omega), rfl, rfl⟩) (ea_cons (ev_call (ea_cons (ev_op (ev_var rfl) (ev_var rfl) (rv_ixL (atI_gt dLS hj))) (ea_cons (ev_var rfl) ea_nil)) ⟨(gt l (i + 1 + m), W), (by have := oj.l; show (gt l (i + 1 + m)).length ≤ _; omega), rfl, rfl⟩) ea_nil)) ?_
      refine go_if (b := kb (i, i + 1 + m)) ((et_and (et_B (ev_var rfl)) (fun _ => (et_B (ev_call (ea_cons (ev_var rfl) (ea_cons (ev_var rfl) (ea_cons (ev_var rfl) (ea_cons (ev_var rfl) ea_nil)))) ⟨(k, (t, b), wt (gt l i) W, wt (gt l (i + 1 + m)) W), ⟨h1, wt_wg h3 oi.l, wt_wg h3 oj.l⟩, rfl, rfl⟩)))).is (Bool.and_comm _ _)) (fun hb => ?_) (fun hb => ?_)
      · refine go_assoc (go_app (ev_tup (ea_cons (ev_var rfl) (ea_cons (ev_var rfl) ea_nil))) ?_ ?_)
        · rw [List.length_map, List.length_append]
          have := fil_le (P := fun m => kb (i, i + 1 + m)) (G := fun m => (i, i + 1 + m)) (pre := pre2)
          omega
        · refine go_nextz (go_nextz (go_nextO (by walk_at "mu le") ?_))
          rw [fil_snoc (P := fun m => kb (i, i + 1 + m)) hb, ← List.append_assoc]
          exact ol_snoc rfl
      · refine go_nextz (go_nextO (by walk_at "mu le") ?_)
        rw [fil_skip (P := fun m => kb (i, i + 1 + m)) hb]
    · refine go_nextO (by walk_at "mu le") ?_
      rw [fm_snoc]
  · refine go_tell ?_
    refine go_ret ((ev_var rfl).is ?_)
    have e := IJ_fm l.length kb fun p => p
    rw [List.map_id'' (fun _ => rfl)] at e
    rw [← e]
def f_law_rows := Fs (fun x : List (List Str) × Wt × List (Nat × Nat) => OkLot x.1 ∧ (∀ p ∈ x.2.2, p.1 < x.1.length ∧ p.2 < x.1.length) ∧ x.2.2.length ≤ 1000) (fun x => [dLot x.1, dWt x.2.1, dL (x.2.2.map dNN)]) (fun x => dL ((x.2.2.map (rowOf x.1 x.2.1)).map dRow))
theorem sc_law_rows : FnScope ["_law_lot_here", "_law_weights_here", "_law_some", "_law_i", "_law_j"] ["_law_lot_here", "_law_weights_here", "_law_some"] (defScope s_law_rows) := ⟨rfl, rfl, rfl, by decide +kernel, rfl, by decide +kernel, by decide +kernel⟩
theorem bd_law_rows : BindOk "_law_rows" s_law_rows ["_law_lot_here", "_law_weights_here", "_law_some"] := fun _ _ _ _ _ _ us hl => match us, hl with | [_, _, _], _ => rfl
theorem ok_law_rows (T : Txt K mg kA signsZ kindsL) (F : DefF K mg "_law_rows" s_law_rows) (c_law_common : Cal P w K mg base 2 "_law_common" (spF f_law_common)) : Cal P w K mg base 3 "_law_rows" (spF f_law_rows) := by
  refine cal_fs F sc_law_rows bd_law_rows (fun z => by first | rfl | (cases z <;> rfl)) (fun f cdv A outer s H E hr => ⟨_, (pss_cons (ps_ret (pe_lc (own := [("_law_i", 3), ("_law_j", 4)]) (g := (gTup K 2 (gCons (gName 3) (gCons (gName 4) gNil)))) (tt := tYes) rfl sc_law_rows.nd (pi_list (pv 2)) (blkOk_by (N := ["_law_lot_here", "_law_weights_here", "_law_some", "_law_i", "_law_j"]) (sc := defScope s_law_rows) (by decide +kernel)) (fun _ _ _ _ _ => (pg_tup rfl (pgs_cons (pg_name (i := 3) sc_law_rows.nd rfl (Or.inl rfl)) (pgs_cons (pg_name (i := 4) sc_law_rows.nd rfl (Or.inl rfl)) pgs_nil)))) (fun _ _ _ _ _ => pts_nil) (fun _ _ _ _ _ => (pe_tup (pa_cons (pv 3) (pa_cons (pv 4) (pa_cons (pe_cal c_law_common hr (by decide : (2 : Nat) ≤ 2) rfl (pa_cons (pe_ix (k_ixL K rfl) (pv 0) (pv 3) (fun _ _ => rfl)) (pa_cons (pe_ix (k_ixL K rfl) (pv 0) (pv 4) (fun _ _ => rfl)) (pa_cons (pv 1) pa_nil)))) pa_nil)))))))
    pss_nil), ?_⟩)
  rintro ⟨l, W, some'⟩ ⟨h2, h4, h5⟩
  dsimp only at h2 h4 h5 ⊢
  exact go_ret (((en_lc0 _ _ _ _ (fun p => dRow (rowOf l W p)) (wi_list (ev_var rfl)) (fun _ => tg_tup2) (fun p hx => (ev_tup (ea_cons (ev_var rfl) (ea_cons (ev_var rfl) (ea_cons (ev_call (ea_cons (ev_op (ev_var rfl) (ev_var rfl) (rv_ixL (atI_gt dLS (h4 p hx).1))) (ea_cons (ev_op (ev_var rfl) (ev_var rfl) (rv_ixL (atI_gt dLS (h4 p hx).2))) (ea_cons (ev_var rfl) ea_nil))) ⟨(gt l p.1, gt l p.2, W), (h2.gt (h4 p hx).1).l, rfl, rfl⟩) ea_nil))))) (by omega) (by decide))).ev.is (congrArg dL (List.map_map (g := dRow) (f := rowOf l W)).symm))
instance inhDn : Inhabited Dn := ⟨dN⟩
def f_law_shuffled := Fs (fun x : List Dn × Int => x.1.length ≤ 1000) (fun x => [dL x.1, dI x.2]) (fun x => dL (shuf x.1 x.2))
theorem shuf_map {α : Type} [Inhabited α] (δ : α → Dn) (xs : List α) (n : Int) : shuf (xs.map δ) n = (shuf xs n).map δ := by
  unfold shuf
  rw [List.length_map, List.map_map]
  refine List.map_congr_left fun i hi => ?_
  exact gt_map δ (List.mem_range.mp ((trow_perm _ _).mem_iff.mp hi))
theorem sc_law_shuffled : FnScope ["_law_rows_here", "_law_number", "_law_k"] ["_law_rows_here", "_law_number"] (defScope s_law_shuffled) := ⟨rfl, rfl, rfl, by decide +kernel, rfl, by decide +kernel, by decide +kernel⟩
theorem bd_law_shuffled : BindOk "_law_shuffled" s_law_shuffled ["_law_rows_here", "_law_number"] := fun _ _ _ _ _ _ us hl => match us, hl with | [_, _], _ => rfl
theorem ok_law_shuffled (T : Txt K mg kA signsZ kindsL) (F : DefF K mg "_law_shuffled" s_law_shuffled) (c_law_turned_row : Cal P w K mg base 1 "_law_turned_row" (spF f_law_turned_row)) : Cal P w K mg base 2 "_law_shuffled" (spF f_law_shuffled) := by
  refine cal_fs F sc_law_shuffled bd_law_shuffled (fun z => by first | rfl | (cases z <;> rfl)) (fun f cdv A outer s H E hr => ⟨_, (pss_cons (ps_ret (pe_lc (own := [("_law_k", 2)]) (g := (gName 2)) (tt := tYes) rfl sc_law_shuffled.nd (pi_list (pe_cal c_law_turned_row hr (by decide : (1 : Nat) ≤ 1) rfl (pa_cons (pv 1) (pa_cons (pe_callB (k_len K rfl) (by rfl) T.len PySem.boot_len (pa_cons (pv 0) pa_nil)) pa_nil)))) (blkOk_by (N := ["_law_rows_here", "_law_number", "_law_k"]) (sc := defScope s_law_shuffled) (by decide +kernel)) (fun _ _ _ _ _ => (pg_name (i := 2) sc_law_shuffled.nd rfl (Or.inl rfl))) (fun _ _ _ _ _ => pts_nil) (fun _ _ _ _ _ => (pe_ix (k_ixL K rfl) (pv 0) (pv 2) (fun _ _ => rfl)))))
    pss_nil), ?_⟩)
  rintro ⟨ds, n⟩ h
  dsimp only at h ⊢
  exact go_ret (((en_lc0 (trow n ds.length) (fun i : Nat => dI (i : Int)) _ _ (fun i => gt ds i) (wi_list (ev_call (ea_cons (ev_var rfl) (ea_cons (ev_cb (ea_cons (ev_var rfl) ea_nil) rc_len) ea_nil)) ⟨(n, ds.length), h, rfl, rfl⟩)) (fun _ => tg_name) (fun i hi => (ev_op (ev_var rfl) (ev_var rfl) (rv_ixL (atI_nat (gt_lt (List.mem_range.mp ((trow_perm _ _).mem_iff.mp hi))))))) (by rw [trow_len]; omega) (by decide))).ev)
end
end Mu
/-! The plain law: a pair that is alike enough is held by every paper. -/
namespace Mu
open PySem
theorem up_pos {p q : Int} (hp : 1 ≤ p) (hq : 0 < q) : 1 ≤ up p q := by
  rcases Int.lt_or_le (up p q) 1 with h | h
  · have := (up_le (p := p) (c := 0) hq).mp (by omega)
    omega
  · exact h
theorem mul_pos1 {x y : Int} (hx : 1 ≤ x) (hy : 1 ≤ y) : 1 ≤ x * y := by
  have := Int.mul_le_mul_of_nonneg_left hy (by omega : 0 ≤ x)
  omega
theorem need_pos {k : Kd} {t b a c : Int} (h : Lst t b) (ha : 1 ≤ a) (hc : 1 ≤ c) : 1 ≤ need k t b a c := by
  obtain ⟨g1, g2, g3, _⟩ := h
  cases k with
  | both => exact up_pos (mul_pos1 g1 (by omega)) (by omega)
  | mean => exact up_pos (mul_pos1 g1 (by omega)) (by omega)
  | greater => exact up_pos (mul_pos1 g1 (by omega)) (by omega)
  | lesser => exact up_pos (mul_pos1 g1 (by omega)) (by omega)
  | square =>
    have h1 : 1 ≤ up (t * a * c) b := up_pos (mul_pos1 (mul_pos1 g1 ha) hc) (by omega)
    have r := rootUp_is (up (t * a * c) b)
    show 1 ≤ rootUp (up (t * a * c) b)
    rcases Int.lt_or_le (rootUp (up (t * a * c) b)) 1 with z | z
    · have e : rootUp (up (t * a * c) b) = 0 := by have := r.h0; omega
      have := r.h1
      rw [e] at this
      omega
    · exact z
theorem up_mono {p q r : Int} (h : p ≤ r) (hq : 0 < q) : up p q ≤ up r q := Int.ediv_le_ediv hq (by omega)
theorem root_mono {m n : Int} (h : m ≤ n) : rootUp m ≤ rootUp n := (rootUp_is m).h2 _ (rootUp_is n).h0 (Int.le_trans h (rootUp_is n).h1)
theorem need_mono {k : Kd} {t b a c d : Int} (h : Lst t b) (ha : 0 ≤ a) (hcd : c ≤ d) : need k t b a c ≤ need k t b a d := by
  obtain ⟨g1, g2, g3, _⟩ := h
  have m : ∀ x y : Int, x ≤ y → t * x ≤ t * y := fun x y h => Int.mul_le_mul_of_nonneg_left h (by omega)
  cases k with
  | both => exact up_mono (m _ _ (by omega)) (by omega)
  | mean => exact up_mono (m _ _ (by omega)) (by omega)
  | greater => exact up_mono (m _ _ (by omega)) (by omega)
  | lesser => exact up_mono (m _ _ (by omega)) (by omega)
  | square => exact root_mono (up_mono (Int.mul_le_mul_of_nonneg_left hcd (Int.mul_nonneg (by omega) ha)) (by omega))
/-- a share that is no less: in plain products -/
theorem frac_enough {t b x y : Int} (hy : 0 < y) : enough t b (frac x y) = decide (t * y ≤ x * b) := by
  have g := gcd_pos (x := x) hy
  have d1 : (Int.gcd x y : Int) ∣ x := Int.gcd_dvd_left ..
  have d2 : (Int.gcd x y : Int) ∣ y := Int.gcd_dvd_right ..
  unfold enough frac
  obtain ⟨u, hu⟩ := d1
  obtain ⟨v, hv⟩ := d2
  generalize (Int.gcd x y : Int) = q at *
  subst hu hv
  rw [Int.mul_ediv_cancel_left _ (by omega), Int.mul_ediv_cancel_left _ (by omega)]
  have e1 : t * (q * v) = q * (t * v) := by rw [← Int.mul_assoc, Int.mul_comm t q, Int.mul_assoc]
  have e2 : q * u * b = q * (u * b) := Int.mul_assoc _ _ _
  rw [e1, e2, Bool.eq_iff_iff]
  simp only [Bool.not_eq_true', decide_eq_false_iff_not, decide_eq_true_eq]
  constructor
  · intro h
    exact Int.mul_le_mul_of_nonneg_left (by omega) (by omega)
  · intro h hlt
    have := Int.mul_lt_mul_of_pos_left hlt g
    omega
theorem enough_need {k : Kd} {t b a c w : Int} (h : Lst t b) (h1 : Wg a) (h2 : Wg c) (h3 : 0 ≤ w) (h4 : w ≤ a) (h5 : w ≤ c) (he : enough t b (shareOf k a c w) = true) : 1 ≤ a ∧ 1 ≤ c ∧ need k t b a c ≤ w := by
  have hz : ¬ (a = 0 ∨ c = 0) := fun z => by
    rw [shareOf, if_pos z] at he
    unfold enough at he
    obtain ⟨g1, _⟩ := h
    simp at he
    omega
  have a0 := h1.1
  have c0 := h2.1
  refine ⟨by omega, by omega, ?_⟩
  rw [shareOf, if_neg hz] at he
  obtain ⟨g1, g2, g3, _⟩ := h
  cases k with
  | both =>
    have he : enough t b (frac w (a + c - w)) = true := he
    rw [frac_enough (by omega)] at he
    have he := of_decide_eq_true he
    refine (up_le (by omega)).mpr ?_
    rw [Int.mul_sub] at he
    rw [Int.mul_add w, Int.mul_comm w t]
    omega
  | mean =>
    have he : enough t b (frac (2 * w) (a + c)) = true := he
    rw [frac_enough (by omega)] at he
    have he := of_decide_eq_true he
    refine (up_le (by omega)).mpr ?_
    have e : 2 * w * b = w * (2 * b) := by rw [Int.mul_comm 2 w, Int.mul_assoc]
    omega
  | greater =>
    have he : enough t b (frac w (max a c)) = true := he
    rw [frac_enough (by omega)] at he
    exact (up_le (by omega)).mpr (of_decide_eq_true he)
  | lesser =>
    have he : enough t b (frac w (min a c)) = true := he
    rw [frac_enough (by omega)] at he
    exact (up_le (by omega)).mpr (of_decide_eq_true he)
  | square =>
    have he : enough t b (frac (w * w) (a * c)) = true := he
    rw [frac_enough (Int.mul_pos (by omega) (by omega))] at he
    have he := of_decide_eq_true he
    refine (rootUp_is _).h2 w h3 ((up_le (by omega)).mpr ?_)
    rw [Int.mul_assoc]
    exact he
theorem wt_sub {W : Wt} (h : OkW W) : ∀ {s u : List Str}, s.Nodup → (∀ x ∈ s, x ∈ u) → wt s W ≤ wt u W
  | [], u, _, _ => by
    have := (wt_bd h u).1
    show 0 ≤ wt u W
    omega
  | x :: s, u, hn, sub => by
    rw [List.nodup_cons] at hn
    have hx := sub x List.mem_cons_self
    have h1 := wt_sub h (u := u.erase x) hn.2 fun y hy => (List.mem_erase_of_ne (fun (e : y = x) => hn.1 (e ▸ hy))).mpr (sub y (List.mem_cons_of_mem _ hy))
    have h2 := wt_perm (List.perm_cons_erase hx) W
    rw [h2, wt_cons, wt_cons]
    omega
/-- what the one has and the other lacks -/
def lack (s o : List Str) : List Str := s.filter fun x => !decide (x ∈ o)
theorem lack_wt (s o : List Str) (W : Wt) : wt s W = cw s o W + wt (lack s o) W := by
  unfold cw com lack
  induction s with
  | nil => rfl
  | cons x s ih =>
    by_cases h : x ∈ o
    · rw [List.filter_cons_of_pos (by simpa using h), List.filter_cons_of_neg (by simpa using h), wt_cons, wt_cons, ih]
      omega
    · rw [List.filter_cons_of_neg (by simpa using h), List.filter_cons_of_pos (by simpa using h), wt_cons, wt_cons, ih]
      omega
def diffB (s o : List Str) (x : Str) : Bool := !decide (decide (x ∈ s) = decide (x ∈ o))
theorem dis_count (s o : List Str) : ∀ ps : List (List Str), ps.length ≤ (ps.filter (agreeB s o)).length + (ps.flatten.filter (diffB s o)).length
  | [] => Nat.zero_le _
  | p :: ps => by
    have ih := dis_count s o ps
    rw [List.flatten_cons, List.filter_append, List.length_append, List.length_cons]
    by_cases h : agreeB s o p = true
    · rw [List.filter_cons_of_pos h, List.length_cons]
      omega
    · rw [List.filter_cons_of_neg h]
      have : 0 < (p.filter (diffB s o)).length := by
        rcases Nat.eq_zero_or_pos (p.filter (diffB s o)).length with z | z
        · exfalso
          apply h
          unfold agreeB
          refine List.all_eq_true.mpr fun x hx => ?_
          have e := List.eq_nil_of_length_eq_zero z
          have := List.filter_eq_nil_iff.mp e x hx
          unfold diffB at this
          simpa using this
        · exact z
      omega
theorem parts_all {k : Kd} {t b : Int} {l ps : List (List Str)} {s o : List Str} {W : Wt} (h : Lst t b) (hp : OkPs l ps) (hs : OkS s) (ho : OkS o) (hW : OkW W) (he : enough t b (shr k s o W) = true) : areMates k t b (wt s W) (wt o W) = true ∧ partsHold k t b s o W ps = true := by
  have w1 := cw_le hW s o
  have w2 := cw_le2 hW hs.nd ho.nd
  obtain ⟨a1, c1, n1⟩ := enough_need h (wt_wg hW hs.l) (wt_wg hW ho.l) (cw_wg hW hs.l).1 w1 w2 he
  refine ⟨?_, ?_⟩
  · unfold areMates
    rw [decide_eq_true (by omega), decide_eq_true (by omega), decide_eq_true (by omega)]
    rfl
  · have d := dis_count s o ps
    have e1 := lack_wt s o W
    have e2 := lack_wt o s W
    rw [cw_comm ho.nd hs.nd] at e2
    have b1 := (wt_bd hW (lack s o)).1
    have b2 := (wt_bd hW (lack o s)).1
    have dn : (ps.flatten.filter (diffB s o)).length ≤ (lack s o ++ lack o s).length := nd_len (hp.s.nd.filter _) fun x hx => by
      have := (List.mem_filter.mp hx).2
      unfold diffB at this
      unfold lack
      rw [List.mem_append, List.mem_filter, List.mem_filter]
      by_cases p : x ∈ s <;> by_cases q : x ∈ o <;> simp [p, q] at this ⊢
    rw [List.length_append] at dn
    unfold partsHold roomN
    have ea : (agN s o ps).length = (ps.filter (agreeB s o)).length := agN_len' s o ps
    rw [ea]
    refine decide_eq_true ?_
    omega
where
  agN_len' (s o : List Str) (ps : List (List Str)) : (agN s o ps).length = (ps.filter (agreeB s o)).length := by
    unfold agN
    rw [List.length_map]
    have e : ps = (List.range ps.length).map (gt ps) := by
      have := map_gt ps fun x => x
      rw [List.map_id'' (fun _ => rfl)] at this
      exact this.symm
    have e2 : ps.filter (agreeB s o) = ((List.range ps.length).filter fun i => agreeB s o (gt ps i)).map (gt ps) := by
      conv => lhs; rw [e, List.filter_map]
      rfl
    rw [e2, List.length_map]
theorem first_split {P : Str → Bool} : ∀ {l : List Str}, (∃ x ∈ l, P x = true) → ∃ l1 x l2, l = l1 ++ x :: l2 ∧ P x = true ∧ ∀ y ∈ l1, P y = false
  | [], ⟨_, h, _⟩ => nomatch h
  | y :: l, h => by
    by_cases hy : P y = true
    · exact ⟨[], y, l, rfl, hy, fun _ h => nomatch h⟩
    · obtain ⟨x, hx, hp⟩ := h
      rcases List.mem_cons.mp hx with e | hx
      · subst e; exact absurd hp hy
      · obtain ⟨l1, z, l2, e, h1, h2⟩ := first_split ⟨x, hx, hp⟩
        refine ⟨y :: l1, z, l2, by rw [e]; rfl, h1, fun u hu => ?_⟩
        rcases List.mem_cons.mp hu with q | q
        · subst q; simpa using hy
        · exact h2 u q
/-- the beginning reaches past the first common word -/
theorem bgn_reach {k : Kd} {t b : Int} {s ord l1 l2 : List Str} {x : Str} {W : Wt} (hW : OkW W) (hs : s ≠ []) (e : ord = l1 ++ x :: l2) (hx : x ∈ s) (hq : leastNeed k t b (wt s W) ≤ wt (x :: ordF s l2) W) : (ordF s l1).length + 1 ≤ (bgn k t b s W ord).length := by
  have eo : ordF s ord = ordF s l1 ++ x :: ordF s l2 := by
    unfold ordF
    rw [e, List.filter_append, List.filter_cons_of_pos (by simpa using hx)]
  unfold bgn
  rw [if_neg hs, List.length_map]
  refine Nat.le_trans (Nat.le_of_eq (List.length_range (n := (ordF s l1).length + 1)).symm) (nd_len List.nodup_range fun i hi => ?_)
  rw [List.mem_range] at hi
  rw [List.mem_filter, List.mem_range, eo]
  refine ⟨by rw [List.length_append, List.length_cons]; omega, decide_eq_true ?_⟩
  rw [List.drop_append_of_le_length (by omega), wt_app]
  have := (wt_bd hW ((ordF s l1).drop i)).1
  omega
theorem ends_all {k : Kd} {t b : Int} {l : List (List Str)} {ord s o : List Str} {W : Wt} {es1 es2 : Nat} (h : Lst t b) (hord : OkOrd l ord) (ms : s ∈ l) (mo : o ∈ l) (hs : OkS s) (ho : OkS o) (hW : OkW W) (h1 : (bgn k t b s W ord).length ≤ es1) (h2 : (bgn k t b o W ord).length ≤ es2)
    (he : enough t b (shr k s o W) = true) : areMates k t b (wt s W) (wt o W) = true ∧ alike ((ordF s ord).take es1) ((ordF o ord).take es2) = true := by
  have w1 := cw_le hW s o
  have w2 := cw_le2 hW hs.nd ho.nd
  have g1 := wt_wg hW hs.l
  have g2 := wt_wg hW ho.l
  obtain ⟨a1, c1, n1⟩ := enough_need h g1 g2 (cw_wg hW hs.l).1 w1 w2 he
  have np := need_pos (k := k) h a1 c1
  have mates : areMates k t b (wt s W) (wt o W) = true := by
    unfold areMates
    rw [decide_eq_true (by omega), decide_eq_true (by omega), decide_eq_true (by omega)]
    rfl
  refine ⟨mates, ?_⟩
  have hex : ∃ x ∈ ord, (decide (x ∈ s) && decide (x ∈ o)) = true := by
    cases hc : com s o with
    | nil =>
      exfalso
      have : cw s o W = 0 := by unfold cw; rw [hc]; rfl
      omega
    | cons x r =>
      have hm : x ∈ com s o := by rw [hc]; exact List.mem_cons_self
      have := List.mem_filter.mp hm
      exact ⟨x, hord.c s ms x this.1, by simp [this.1, of_decide_eq_true this.2]⟩
  obtain ⟨l1, x, l2, e, hx, hl1⟩ := first_split hex
  rw [Bool.and_eq_true] at hx
  have xs := of_decide_eq_true hx.1
  have xo := of_decide_eq_true hx.2
  have tail : ∀ (u v : List Str), (∀ y ∈ u, y ∈ ord) → x ∈ u → (∀ y ∈ l1, (decide (y ∈ u) && decide (y ∈ v)) = false) → u.Nodup → cw u v W ≤ wt (x :: ordF u l2) W := fun u v hu hxu hl hn => by
    refine wt_sub hW (hn.filter _) fun y hy => ?_
    have hy := List.mem_filter.mp hy
    have hyo := hu y hy.1
    rw [e] at hyo
    rcases List.mem_append.mp hyo with q | q
    · have := hl y q
      simp [hy.1, of_decide_eq_true hy.2] at this
    · rcases List.mem_cons.mp q with q | q
      · subst q; exact List.mem_cons_self
      · exact List.mem_cons_of_mem _ (List.mem_filter.mpr ⟨q, decide_eq_true hy.1⟩)
  have low : ∀ a c : Int, Wg a → Wg c → 1 ≤ a → 1 ≤ c → areMates k t b a c = true → leastNeed k t b a ≤ need k t b a c := fun a c ga gc ha hc am => by
    refine need_mono h ga.1 ?_
    rcases Int.lt_or_le a c with z | z
    · have := (mateLow_wg (k := k) h ga ha).2
      omega
    · rw [mates_low h hc z] at am
      exact of_decide_eq_true am
  have ncomm : need k t b (wt s W) (wt o W) = need k t b (wt o W) (wt s W) := need_comm
  have mates2 : areMates k t b (wt o W) (wt s W) = true := by
    unfold areMates
    rw [decide_eq_true (by omega), decide_eq_true (by omega), decide_eq_true (by rw [← ncomm]; omega)]
    rfl
  have r1 : (ordF s l1).length + 1 ≤ es1 := Nat.le_trans (bgn_reach hW (fun z => by rw [z] at xs; exact nomatch xs) e xs (Int.le_trans (low _ _ g1 g2 a1 c1 mates) (Int.le_trans n1 (tail s o (hord.c s ms) xs hl1 hs.nd)))) h1
  have r2 : (ordF o l1).length + 1 ≤ es2 := Nat.le_trans (bgn_reach hW (fun z => by rw [z] at xo; exact nomatch xo) e xo (Int.le_trans (low _ _ g2 g1 c1 a1 mates2) (Int.le_trans (by rw [← ncomm, cw_comm ho.nd hs.nd]; exact n1) (tail o s (hord.c o mo) xo (fun y hy => by rw [Bool.and_comm]; exact hl1 y hy) ho.nd)))) h2
  have inn : ∀ (u : List Str) (n : Nat), x ∈ u → (ordF u l1).length + 1 ≤ n → x ∈ (ordF u ord).take n := fun u n hu hn => by
    have eo : ordF u ord = (ordF u l1 ++ [x]) ++ ordF u l2 := by
      unfold ordF
      rw [e, List.filter_append, List.filter_cons_of_pos (by simpa using hu), List.append_assoc]
      rfl
    rw [eo, List.take_append]
    refine List.mem_append_left _ ?_
    rw [List.take_of_length_le (by rw [List.length_append]; exact hn)]
    exact List.mem_append_right _ List.mem_cons_self
  unfold alike
  exact List.any_eq_true.mpr ⟨x, inn s es1 xs r1, decide_eq_true (inn o es2 xo r2)⟩
where
  need_comm {k : Kd} {t b a c : Int} : need k t b a c = need k t b c a := by
    cases k with
    | both => show up _ _ = up _ _; rw [Int.add_comm]
    | mean => show up _ _ = up _ _; rw [Int.add_comm]
    | greater => show up _ _ = up _ _; rw [Int.max_comm]
    | lesser => show up _ _ = up _ _; rw [Int.min_comm]
    | square => show rootUp _ = rootUp _; rw [Int.mul_assoc, Int.mul_comm a c, ← Int.mul_assoc]
/-- every pair that is alike enough is held -/
theorem held_all {k : Kd} {t b : Int} {l : List (List Str)} {W : Wt} {p : Pap} (h : Lst t b) (hl : OkLot l) (hW : OkW W) (hp : OkPap k t b l W p) {q : Nat × Nat} (h1 : q.1 < l.length) (h2 : q.2 < l.length) (he : alikeF k t b l W q = true) : p.kb k t b l W q = true := by
  have o1 := hl.gt h1
  have o2 := hl.gt h2
  match p, hp with
  | .all _, _ => rfl
  | .ends ord es _, hp =>
    obtain ⟨ho, hes⟩ := hp
    obtain ⟨a, c⟩ := ends_all h ho (gt_mem h1) (gt_mem h2) o1 o2 hW (hes.e _ h1).1 (hes.e _ h2).1 he
    show (_ && _) = true
    rw [a, c]
    rfl
  | .parts ps _, hp =>
    obtain ⟨a, c⟩ := parts_all h hp o1 o2 hW he
    show (_ && _) = true
    rw [a, c]
    rfl
theorem J_perm {k : Kd} {t b : Int} {l : List (List Str)} {W : Wt} (p : Pap) : ((IJ l.length).filter (p.kb k t b l W)).Perm (p.J k t b l W) := (IJ_JI _).filter _
theorem pairs_perm {k : Kd} {t b : Int} {l : List (List Str)} {W : Wt} {p : Pap} (h : Lst t b) (hl : OkLot l) (hW : OkW W) (hp : OkPap k t b l W p) : (plainPairs k t b l W).Perm (((p.J k t b l W).filter (alikeF k t b l W)).map (prOf k l W)) := by
  show (((IJ l.length).filter (alikeF k t b l W)).map (prOf k l W)).Perm _
  refine List.Perm.map _ ?_
  unfold Pap.J
  rw [List.filter_filter]
  refine ((IJ_JI l.length).filter _).trans (List.Perm.of_eq (List.filter_congr fun q hq => ?_))
  rw [mem_JI] at hq
  by_cases ha : alikeF k t b l W q = true
  · rw [ha, held_all h hl hW hp (by omega) hq.2 ha]
    rfl
  · have ha : alikeF k t b l W q = false := by simpa using ha
    rw [ha, Bool.false_and]
end Mu
/-! The law's orders, parts, copies. -/
namespace Mu
open PySem PySem.Spec PyProof.Rows L2
local macro_rules | `(tactic| walk_at "mu le") => `(tactic| (repeat (first | exact trivial | refine ⟨by first | exact Or.inr rfl | exact Or.inl rfl, ?_⟩)))
def wadd (ws s : List Str) : List Str := ws ++ s.filter fun x => !decide (x ∈ ws)
def wordsF (l : List (List Str)) : List Str := l.foldl wadd []
theorem wadd_mem {ws s : List Str} {x : Str} : x ∈ wadd ws s ↔ x ∈ ws ∨ x ∈ s := by
  unfold wadd
  rw [List.mem_append, List.mem_filter]
  by_cases h : x ∈ ws <;> simp [h]
theorem wadd_nd {ws s : List Str} (h1 : ws.Nodup) (h2 : s.Nodup) : (wadd ws s).Nodup := by
  refine List.nodup_append.mpr ⟨h1, h2.filter _, fun a ha b hb e => ?_⟩
  subst e
  have := (List.mem_filter.mp hb).2
  simp [ha] at this
theorem words_ok : ∀ {l : List (List Str)} {ws : List Str}, (∀ s ∈ l, NmS s) → NmS ws → NmS (l.foldl wadd ws) ∧ (∀ x ∈ ws, x ∈ l.foldl wadd ws) ∧ ∀ s ∈ l, ∀ x ∈ s, x ∈ l.foldl wadd ws
  | [], ws, _, h => ⟨h, fun _ hx => hx, fun _ z => nomatch z⟩
  | s :: l, ws, hl, h => by
    have hs := hl s List.mem_cons_self
    have h2 : NmS (wadd ws s) := ⟨wadd_nd h.nd hs.nd, fun x hx => (wadd_mem.mp hx).elim (h.sub x) (hs.sub x)⟩
    obtain ⟨a, b, c⟩ := words_ok (fun u hu => hl u (List.mem_cons_of_mem _ hu)) h2
    refine ⟨a, fun x hx => b x (wadd_mem.mpr (.inl hx)), fun u hu x hx => ?_⟩
    rcases List.mem_cons.mp hu with e | hu
    · subst e
      exact b x (wadd_mem.mpr (.inr hx))
    · exact c u hu x hx
abbrev extraL : List Str := ["x", "y.", "a", "0"]
theorem extra_ok : ∀ x ∈ namesL ++ (["x", "y.", "0"] : List Str), OkWord x := fun x hx => okw_ok ((by decide +kernel : ∀ x ∈ namesL ++ (["x", "y.", "0"] : List Str), okw x = true) x hx)
theorem extra_sub : ∀ x ∈ extraL, x ∈ namesL ++ (["x", "y.", "0"] : List Str) := by decide +kernel
theorem extra_nd : extraL.Nodup := by decide +kernel
def extraF (ys : List Str) (m : Int) : List Str := (extraL.filter fun x => !decide (x ∈ ys)).take m.toNat
theorem ord_ok {l : List (List Str)} (hl : ∀ s ∈ l, NmS s) {ys zs : List Str} (hy : ys.Perm (wordsF l)) (c : Bool) (m : Int) (hz : zs.Perm (if c then ys ++ extraF ys m else ys)) : OkOrd l zs := by
  obtain ⟨a, _, b⟩ := words_ok (ws := []) hl ⟨List.nodup_nil, fun _ h => nomatch h⟩
  have ynd : ys.Nodup := hy.nodup_iff.mpr a.nd
  have big : ((if c then ys ++ extraF ys m else ys).Nodup ∧ (∀ x ∈ (if c then ys ++ extraF ys m else ys), x ∈ namesL ++ (["x", "y.", "0"] : List Str))) ∧ ∀ x ∈ ys, x ∈ (if c then ys ++ extraF ys m else ys) := by
    have ysub : ∀ x ∈ ys, x ∈ namesL ++ (["x", "y.", "0"] : List Str) := fun x hx => List.mem_append_left _ (a.sub x (hy.mem_iff.mp hx))
    have es : ∀ x ∈ extraF ys m, x ∈ extraL ∧ x ∉ ys := fun x hx => by
      have := List.mem_filter.mp ((List.take_sublist _ _).subset hx)
      exact ⟨this.1, by simpa using this.2⟩
    cases c with
    | true =>
      refine ⟨⟨List.nodup_append.mpr ⟨ynd, (extra_nd.filter _).sublist (List.take_sublist _ _), fun p hp q hq e => ?_⟩, fun x hx => ?_⟩, fun x hx => List.mem_append_left _ hx⟩
      · subst e
        exact (es _ hq).2 hp
      · rcases List.mem_append.mp hx with q | q
        · exact ysub x q
        · exact extra_sub x (es x q).1
    | false => exact ⟨⟨ynd, ysub⟩, fun x hx => hx⟩
  obtain ⟨⟨p, q⟩, r⟩ := big
  have zsub : ∀ x ∈ zs, x ∈ namesL ++ (["x", "y.", "0"] : List Str) := fun x hx => q x (hz.mem_iff.mp hx)
  have znd : zs.Nodup := hz.nodup_iff.mpr p
  exact ⟨⟨znd, fun x hx => extra_ok x (zsub x hx), Nat.le_trans (nd_len znd zsub) (by decide)⟩, fun s hs x hx => hz.mem_iff.mpr (r x (hy.mem_iff.mpr (b s hs x hx)))⟩
def farF (c : Int) (pre : List Nat) : Int := pre.foldl (fun f k => f * 1000003 + mixF c (1 + k)) 1
theorem far_bt (c : Int) (pre : List Nat) : ∀ (f : Int) (m : Nat), Bt m f → Bt (m + 17 * pre.length) (pre.foldl (fun f k => f * 1000003 + mixF c (1 + k)) f) := by
  induction pre with
  | nil => intro f m h; exact h
  | cons k pre ih =>
    intro f m h
    rw [List.foldl_cons, List.length_cons]
    have h1 := h.mul (n := 7) (y := 1000003) ⟨by decide, by decide⟩
    have h2 := mixF_bd c (1 + k)
    have h3 : Bt (m + 17) (f * 1000003 + mixF c (1 + k)) := by
      refine ⟨by have := h1.1; omega, ?_⟩
      have e1 : (10 : Int) ^ (m + 17) = 10 ^ (m + 7) * 10 ^ 10 := Int.pow_add 10 (m + 7) 10
      have e2 : (0 : Int) < 10 ^ (m + 7) := Int.pow_pos (by decide)
      have e3 := h1.2
      rw [e1]
      omega
    have := ih _ _ h3
    rw [show m + 17 * (pre.length + 1) = m + 17 + 17 * pre.length by omega]
    exact this
section
variable {P : Program} {w : World} {K : PySem.W.Frag} {mg : Str → Option Value} {base : Heap} {kA : Addr}
def f_law_order := Fs (fun x : List Int × List (List Str) => NmLot x.2) (fun x => [dIs x.1, dLot x.2]) (fun x => dEx (fun o => OkOrd x.2 o) dLS)
theorem sc_law_order : FnScope ["_law_script", "_law_lot_here", "_law_words", "_law_some", "_law_number", "_law_far", "_law_k", "_law_word"] ["_law_script", "_law_lot_here"] (defScope s_law_order) := ⟨rfl, rfl, rfl, by decide +kernel, rfl, by decide +kernel, by decide +kernel⟩
theorem bd_law_order : BindOk "_law_order" s_law_order ["_law_script", "_law_lot_here"] := fun _ _ _ _ _ _ us hl => match us, hl with | [_, _], _ => rfl
theorem ok_law_order (T : Txt K mg kA signsZ kindsL) (F : DefF K mg "_law_order" s_law_order) (c_law_cell_at : Cal P w K mg base 1 "_law_cell_at" (spF f_law_cell_at)) (c_law_mix : Cal P w K mg base 1 "_law_mix" (spF f_law_mix)) (c_law_turned_row : Cal P w K mg base 1 "_law_turned_row" (spF f_law_turned_row)) : Cal P w K mg base 2 "_law_order" (spF f_law_order) := by
  refine cal_fs F sc_law_order bd_law_order (fun z => by first | rfl | (cases z <;> rfl)) (fun f cdv A outer s H E hr => ⟨_, (pss_cons (ps_set (i := 2) sc_law_order.nd rfl (Or.inr rfl) (pe_lst pa_nil))
    (pss_cons (ps_for PassesOwn.never rfl (pi_list (pv 1)) (pg_name (i := 3) sc_law_order.nd rfl (Or.inl rfl)) (pss_cons (ps_set (i := 2) sc_law_order.nd rfl (Or.inr rfl) (pe_op op_cat (pv 2) (pe_lc (own := [("_law_word", 7)]) (g := (gName 7)) rfl sc_law_order.nd (pi_list (pv 3)) (blkOk_by (N := ["_law_script", "_law_lot_here", "_law_words", "_law_some", "_law_number", "_law_far", "_law_k", "_law_word"]) (sc := defScope s_law_order) (by decide +kernel)) (fun _ _ _ _ _ => (pg_name (i := 7) sc_law_order.nd rfl (Or.inl rfl))) (fun _ _ _ _ _ => pts_one (pt_cmpR (k_nin K rfl) (pv 7) (pv 2) (by rfl))) (fun _ _ _ _ _ => (pv 7)))))
    pss_nil))
    (pss_cons (ps_set (i := 2) sc_law_order.nd rfl (Or.inr rfl) (pe_callB (k_sortedS K rfl) (by rfl) T.sorted (by decide +kernel) (pa_cons (pv 2) pa_nil)))
    (pss_cons (ps_set (i := 4) sc_law_order.nd rfl (Or.inl rfl) (pe_cal c_law_mix hr (by decide : (1 : Nat) ≤ 1) rfl (pa_cons (pe_cal c_law_cell_at hr (by decide : (1 : Nat) ≤ 1) rfl (pa_cons (pv 0) (pa_cons pe_int pa_nil))) (pa_cons pe_int pa_nil))))
    (pss_cons (ps_if (pt_cmpR op_eq (pe_op op_mod (pv 4) pe_int) pe_int (nomark _)) (pss_cons (ps_set (i := 2) sc_law_order.nd rfl (Or.inr rfl) (pe_op op_cat (pv 2) (pe_slice (k_slL K rfl) (pe_lc (own := [("_law_word", 7)]) (g := (gName 7)) rfl sc_law_order.nd (pi_list (pe_lst (pa_cons pe_str (pa_cons pe_str (pa_cons pe_str (pa_cons pe_str pa_nil)))))) (blkOk_by (N := ["_law_script", "_law_lot_here", "_law_words", "_law_some", "_law_number", "_law_far", "_law_k", "_law_word"]) (sc := defScope s_law_order) (by decide +kernel)) (fun _ _ _ _ _ => (pg_name (i := 7) sc_law_order.nd rfl (Or.inl rfl))) (fun _ _ _ _ _ => pts_one (pt_cmpR (k_nin K rfl) (pv 7) (pv 2) (by rfl))) (fun _ _ _ _ _ => (pv 7))) po_none (po_some (pe_op op_mod (pe_op op_fdivW (pv 4) pe_int) pe_int)))))
    pss_nil) pss_nil)
    (pss_cons (ps_set (i := 5) sc_law_order.nd rfl (Or.inl rfl) pe_int)
    (pss_cons (ps_for PassesOwn.never rfl (pi_range1 rfl T.range (pa_cons pe_int pa_nil)) (pg_name (i := 6) sc_law_order.nd rfl (Or.inl rfl)) (pss_cons (ps_set (i := 5) sc_law_order.nd rfl (Or.inl rfl) (pe_op op_add (pe_op op_mulW (pv 5) pe_int) (pe_cal c_law_mix hr (by decide : (1 : Nat) ≤ 1) rfl (pa_cons (pe_cal c_law_cell_at hr (by decide : (1 : Nat) ≤ 1) rfl (pa_cons (pv 0) (pa_cons pe_int pa_nil))) (pa_cons (pe_op op_add pe_int (pv 6)) pa_nil)))))
    pss_nil))
    (pss_cons (ps_ret (pe_lc (own := [("_law_k", 6)]) (g := (gName 6)) (tt := tYes) rfl sc_law_order.nd (pi_list (pe_cal c_law_turned_row hr (by decide : (1 : Nat) ≤ 1) rfl (pa_cons (pv 5) (pa_cons (pe_callB (k_len K rfl) (by rfl) T.len PySem.boot_len (pa_cons (pv 2) pa_nil)) pa_nil)))) (blkOk_by (N := ["_law_script", "_law_lot_here", "_law_words", "_law_some", "_law_number", "_law_far", "_law_k", "_law_word"]) (sc := defScope s_law_order) (by decide +kernel)) (fun _ _ _ _ _ => (pg_name (i := 6) sc_law_order.nd rfl (Or.inl rfl))) (fun _ _ _ _ _ => pts_nil) (fun _ _ _ _ _ => (pe_ix (k_ixL K rfl) (pv 2) (pv 6) (fun _ _ => rfl)))))
    pss_nil)))))))), ?_⟩)
  rintro ⟨s, l⟩ h
  dsimp only at h ⊢
  have hn := h.n
  have pv : ∀ pre post : List (List Str), l = pre ++ post → NmS (pre.foldl wadd []) := fun pre post e => (words_ok (ws := []) (fun u hu => h.s u (by rw [e]; exact List.mem_append_left _ hu)) ⟨List.nodup_nil, fun _ h => nomatch h⟩).1
  have wl := (pv l [] (by rw [List.append_nil])).ok.l
  refine go_asgN (en_lst ea_nil) ?_
  refine go_tell ?_
  refine go_for _ _ _ _ (fun pre => [some (dIs s), some (dLot l), some (dLS (pre.foldl wadd [])), none, none, none, none, none]) (fun pre => none) (wi_list (ev_var rfl)) (fun _ => tg_name) (by walk_at "mu le") rfl (fun pre u post e => ?_) ?_ ok_n
  · have p1 := (pv pre (u :: post) e).ok.l
    have p2 := (h.s u (pre_len e).2).ok.l
    refine go_asg ((ev_opN (ev_var rfl) ((en_lc _ _ _ _ _ dS (wi_list (ev_var rfl)) (fun _ => tg_name) (fun x hx => (et_test (ev_op (ev_var rfl) (ev_var rfl) rv_nin))) (fun x hx hf => (ev_var rfl)) (by omega) (by decide))).ev (rn_cat (by
      rw [List.length_map, List.length_map]
      have := List.length_filter_le (fun x => !decide (x ∈ pre.foldl wadd [])) u
      omega))).ev.is (show _ = dLS (wadd (pre.foldl wadd []) u) from congrArg dL (List.map_append (f := dS)).symm)) ?_
    rw [List.foldl_append]
    exact go_next (by walk_at "mu le")
  · refine go_asg (ev_cb (ea_cons (ev_var rfl) ea_nil) (rc_sortedS (by show (wordsF l).length < 64; have : (wordsF l).length ≤ 20 := wl; omega))) ?_
    refine go_ex (i := 2) (P := fun ys : List Str => ys.Perm (wordsF l)) (D := dLS) rfl fun ys hy => ?_
    have yl : ys.length ≤ 20 := by rw [hy.length_eq]; exact wl
    let n := mixF (cellAt s 12) 0
    have n0 : 0 ≤ n ∧ n < 306783369 := mixF_bd _ _
    refine go_asg (d := dI n) (ev_call (ea_cons (ev_call (ea_cons (ev_var rfl) (ea_cons ev_int ea_nil)) ⟨(s, 12), trivial, rfl, rfl⟩) (ea_cons ev_int ea_nil)) ⟨(cellAt s 12, 0), Nat.zero_le _, rfl, rfl⟩) ?_
    have xl : (extraF ys (n / 3 % 5)).length ≤ 4 := by
      unfold extraF
      rw [List.length_take]
      have := List.length_filter_le (fun x => !decide (x ∈ ys)) extraL
      have e4 : extraL.length = 4 := rfl
      omega
    let zs : List Str := if decide (n % 3 = 1) then ys ++ extraF ys (n / 3 % 5) else ys
    refine go_ifJ0 [some (dIs s), some (dLot l), some (dLS zs), none, some (dI n), none, none, none] (et_test (ev_op (ev_op (ev_var rfl) ev_int (rv_mod (by decide))) ev_int rv_eqI)) (fun hb => ?_) (fun hb => ?_) ?_
    · refine go_asg ((ev_opN (ev_var rfl) ((en_slL ((en_lc extraL dS _ _ _ dS (wi_list ((en_lst (ea_cons ev_str (ea_cons ev_str (ea_cons ev_str (ea_cons ev_str ea_nil)))))).ev) (fun _ => tg_name) (fun x hx => (et_test (ev_op (ev_var rfl) (ev_var rfl) rv_nin))) (fun x hx hf => (ev_var rfl)) (by decide) (by decide))).ev eo_none (eo_some (ev_op (ev_op (ev_var rfl) ev_int (rv_fdiv (Bt.cd (n := 1) ⟨by decide, by decide⟩ (by decide)))) ev_int (rv_mod (by decide))))).ev.is (show _ = dLS (extraF ys (n / 3 % 5)) by
        rw [cut_to (by omega)]
        exact congrArg dL (List.map_take ..).symm)) (rn_cat (by rw [List.length_map, List.length_map]; omega))).ev.is (show _ = dLS zs by
          show _ = dLS (if decide (n % 3 = 1) then ys ++ extraF ys (n / 3 % 5) else ys)
          rw [if_pos hb]
          show _ = dL ((ys ++ extraF ys (n / 3 % 5)).map dS)
          rw [List.map_append])) ?_
      exact go_nextO (by walk_at "mu le") rfl
    · have e : zs = ys := if_neg (by rw [hb]; decide)
      rw [e]
      exact go_nextO (by walk_at "mu le") rfl
    · have zl : zs.length ≤ 24 := by
        show (if decide (n % 3 = 1) then ys ++ extraF ys (n / 3 % 5) else ys).length ≤ 24
        split
        · rw [List.length_append]; omega
        · omega
      refine go_asg (d := dI (farF (cellAt s 12) [])) ev_int ?_
      refine go_for (List.range 4) (fun k : Nat => dI (k : Int)) _ _ (fun pre => [some (dIs s), some (dLot l), some (dLS zs), none, some (dI n), some (dI (farF (cellAt s 12) pre)), none, none]) (fun pre => none) (wi_range1N (n := 4) (ea_cons ev_int ea_nil) (by decide)) (fun _ => tg_name) (by walk_at "mu le") rfl (fun pre k post e => ?_) ?_ ok_n
      · obtain ⟨e1, e2⟩ := range_len e
        have fb := far_bt (cellAt s 12) pre 1 1 ⟨by decide, by decide⟩
        refine go_asg ((ev_op (ev_op (ev_var rfl) ev_int (rv_mul (fb.cm (n := 7) ⟨by decide, by decide⟩ (by omega)))) (ev_call (ea_cons (ev_call (ea_cons (ev_var rfl) (ea_cons ev_int ea_nil)) ⟨(s, 12), trivial, rfl, rfl⟩) (ea_cons (ev_op ev_int (ev_var rfl) rv_add) ea_nil)) ⟨(cellAt s 12, 1 + k), (by show 1 + k ≤ 1000; omega), rfl, rfl⟩) rv_add).is (show _ = dI (farF (cellAt s 12) (pre ++ [k])) by
          unfold farF
          rw [List.foldl_append]
          rfl)) ?_
        exact go_next (by walk_at "mu le")
      · refine go_ret (Ev.ex (x := shuf zs (farF (cellAt s 12) (List.range 4))) (ord_ok h.s hy _ _ (shuf_perm zs _)) (((en_lc0 (trow (farF (cellAt s 12) (List.range 4)) zs.length) (fun i : Nat => dI (i : Int)) _ _ (fun i => dS (gt zs i)) (wi_list (ev_call (ea_cons (ev_var rfl) (ea_cons ((ev_cb (ea_cons (ev_var rfl) ea_nil) rc_len).is (by rw [List.length_map])) ea_nil)) ⟨(farF (cellAt s 12) (List.range 4), zs.length), (by show zs.length ≤ 1000; omega), rfl, rfl⟩)) (fun _ => tg_name) (fun i hi => (ev_op (ev_var rfl) (ev_var rfl) (rv_ixL (atI_gt dS (List.mem_range.mp ((trow_perm _ _).mem_iff.mp hi)))))) (by rw [trow_len]; omega) (by decide)).is (show _ = (shuf zs (farF (cellAt s 12) (List.range 4))).map dS by
          unfold shuf
          rw [List.map_map]
          rfl)).ev))
/-! parts -/
abbrev xyL : List Str := ["x", "y."]
def ptake (c : Int) (x : Str) : Bool := !decide (x ∈ xyL) || decide (mixF c 1 % 2 = 1)
def pn (c : Int) (n i : Nat) : Nat := (mixF c (2 + i) % (n : Int)).toNat
def pm (c : Int) (n i : Nat) : Nat := (mixF c (30 + i) % ((n : Int) + 1)).toNat
def pstep (c : Int) (ws : List Str) (pss : List (List Str)) (i : Nat) : List (List Str) := if ptake c (gt ws i) then
  pss.set (pn c pss.length i) ((gt pss (pn c pss.length i)).take (pm c (gt pss (pn c pss.length i)).length i) ++ [gt ws i] ++ (gt pss (pn c pss.length i)).drop (pm c (gt pss (pn c pss.length i)).length i)) else pss
theorem pstep_len (c : Int) (ws : List Str) (pss : List (List Str)) (i : Nat) : (pstep c ws pss i).length = pss.length := by
  unfold pstep
  split
  · rw [List.length_set]
  · rfl
theorem pn_lt {c : Int} {n i : Nat} (h : 0 < n) : pn c n i < n := by
  unfold pn
  have := mixF_mod c (2 + i) (n := (n : Int)) (by omega)
  omega
theorem pm_le (c : Int) (n i : Nat) : pm c n i ≤ n := by
  unfold pm
  have := mixF_mod c (30 + i) (n := (n : Int) + 1) (by omega)
  omega
theorem set_flat {x : Str} : ∀ {pss : List (List Str)} {n : Nat} {q : List Str}, n < pss.length → q.Perm (gt pss n ++ [x]) → (pss.set n q).flatten.Perm (pss.flatten ++ [x])
  | [], _, _, h, _ => absurd h (Nat.not_lt_zero _)
  | p :: pss, 0, q, _, hq => by
    rw [List.set_cons_zero, List.flatten_cons, List.flatten_cons]
    have hq : q.Perm (p ++ [x]) := hq
    have h1 : (q ++ pss.flatten).Perm (p ++ [x] ++ pss.flatten) := hq.append_right _
    refine h1.trans ?_
    rw [List.append_assoc, List.append_assoc]
    exact List.perm_append_comm.append_left p
  | p :: pss, n + 1, q, h, hq => by
    rw [List.set_cons_succ, List.flatten_cons, List.flatten_cons, List.append_assoc]
    have hq : q.Perm (gt pss n ++ [x]) := hq
    exact (set_flat (pss := pss) (Nat.lt_of_succ_lt_succ h) hq).append_left p
theorem pst_inv (c : Int) (ws : List Str) (m : Nat) (hm : 0 < m) (pre : List Nat) : (pre.foldl (pstep c ws) (List.replicate m [])).length = m ∧ (pre.foldl (pstep c ws) (List.replicate m [])).flatten.Perm ((pre.map (gt ws)).filter (ptake c)) := by
  have gen : ∀ (pre : List Nat) (pss : List (List Str)) (us : List Str), pss.length = m → pss.flatten.Perm us → (pre.foldl (pstep c ws) pss).length = m ∧ (pre.foldl (pstep c ws) pss).flatten.Perm (us ++ (pre.map (gt ws)).filter (ptake c)) := by
    intro pre
    induction pre with
    | nil => intro pss us h1 h2; exact ⟨h1, by rw [List.map_nil, List.filter_nil, List.append_nil]; exact h2⟩
    | cons i pre ih =>
      intro pss us h1 h2
      rw [List.foldl_cons, List.map_cons]
      by_cases ht : ptake c (gt ws i) = true
      · rw [List.filter_cons_of_pos ht]
        have h3 : (pstep c ws pss i).flatten.Perm (us ++ [gt ws i]) := by
          unfold pstep
          rw [if_pos ht]
          exact (set_flat (pn_lt (by omega)) (ins_perm _ _ _)).trans (h2.append_right _)
        have := ih _ _ ((pstep_len c ws pss i).trans h1) h3
        rw [List.append_assoc] at this
        exact this
      · rw [List.filter_cons_of_neg ht]
        have e : pstep c ws pss i = pss := if_neg ht
        rw [e]
        exact ih _ _ h1 h2
  have := gen pre (List.replicate m []) [] (List.length_replicate ..) (by
    rw [show (List.replicate m ([] : List Str)).flatten = [] by
      clear gen hm
      induction m with
      | zero => rfl
      | succ m ih => rw [List.replicate_succ, List.flatten_cons, ih]; rfl])
  rwa [List.nil_append] at this
theorem xy_names : ∀ x ∈ namesL, x ∉ xyL := by decide +kernel
theorem parts_ok {l : List (List Str)} (hl : ∀ s ∈ l, NmS s) {c : Int} {ws : List Str} (hw : ∀ z, z ∈ ws ↔ z ∈ xyL ++ l.flatten) (hnd : ws.Nodup) {m : Nat} (hm : 0 < m) (hm2 : m ≤ 12) : OkPs l ((List.range ws.length).foldl (pstep c ws) (List.replicate m [])) := by
  obtain ⟨i1, i2⟩ := pst_inv c ws m hm (List.range ws.length)
  have e := map_gt ws fun x => x
  rw [List.map_id'' (fun _ => rfl)] at e
  rw [e] at i2
  have wsub : ∀ z ∈ ws, z ∈ namesL ++ (["x", "y."] : List Str) := fun z hz => by
    rcases List.mem_append.mp ((hw z).mp hz) with q | q
    · exact List.mem_append_right _ q
    · obtain ⟨s, hs, hx⟩ := List.mem_flatten.mp q
      exact List.mem_append_left _ ((hl s hs).sub z hx)
  have nd := i2.nodup_iff.mpr (hnd.filter _)
  have sub : ∀ z ∈ ((List.range ws.length).foldl (pstep c ws) (List.replicate m [])).flatten, z ∈ namesL ++ (["x", "y."] : List Str) := fun z hz => wsub z (List.mem_filter.mp (i2.mem_iff.mp hz)).1
  refine ⟨fun z => ?_, by omega, ⟨nd, fun x hx => names_ok x (sub x hx), Nat.le_trans (nd_len nd sub) (by decide)⟩, fun s hs x hx => ?_⟩
  · rw [z] at i1
    exact absurd i1.symm (by show ¬ m = 0; omega)
  · refine i2.mem_iff.mpr (List.mem_filter.mpr ⟨(hw x).mpr (List.mem_append_right _ (List.mem_flatten.mpr ⟨s, hs, hx⟩)), ?_⟩)
    unfold ptake
    rw [decide_eq_false (xy_names x ((hl s hs).sub x hx))]
    rfl
def f_law_parts := Fs (fun x : List Int × List (List Str) => NmLot x.2) (fun x => [dIs x.1, dLot x.2]) (fun x => dEx (fun ps => OkPs x.2 ps) dLot)
theorem flat_len {n m : Nat} : ∀ {l : List (List Str)}, l.length ≤ n → (∀ s ∈ l, s.length ≤ m) → l.flatten.length ≤ n * m
  | [], _, _ => Nat.zero_le _
  | s :: l, h1, h2 => by
    rw [List.flatten_cons, List.length_append]
    rw [List.length_cons] at h1
    have a := h2 s List.mem_cons_self
    have b := flat_len (n := n - 1) (m := m) (l := l) (by omega) fun u hu => h2 u (List.mem_cons_of_mem _ hu)
    have e : n * m = (n - 1) * m + m := by
      have : n = (n - 1) + 1 := by omega
      conv => lhs; rw [this, Nat.add_mul, Nat.one_mul]
    omega
theorem sc_law_parts : FnScope ["_law_script", "_law_lot_here", "_law_cell", "_law_got", "_law_words", "_law_k", "_law_word", "_law_part"] ["_law_script", "_law_lot_here"] (defScope s_law_parts) := ⟨rfl, rfl, rfl, by decide +kernel, rfl, by decide +kernel, by decide +kernel⟩
theorem bd_law_parts : BindOk "_law_parts" s_law_parts ["_law_script", "_law_lot_here"] := fun _ _ _ _ _ _ us hl => match us, hl with | [_, _], _ => rfl
theorem ok_law_parts (T : Txt K mg kA signsZ kindsL) (F : DefF K mg "_law_parts" s_law_parts) (c_law_cell_at : Cal P w K mg base 1 "_law_cell_at" (spF f_law_cell_at)) (c_law_mix : Cal P w K mg base 1 "_law_mix" (spF f_law_mix)) : Cal P w K mg base 2 "_law_parts" (spF f_law_parts) := by
  refine cal_fs F sc_law_parts bd_law_parts (fun z => by first | rfl | (cases z <;> rfl)) (fun f cdv A outer s H E hr => ⟨_, (pss_cons (ps_set (i := 2) sc_law_parts.nd rfl (Or.inl rfl) (pe_cal c_law_cell_at hr (by decide : (1 : Nat) ≤ 1) rfl (pa_cons (pv 0) (pa_cons pe_int pa_nil))))
    (pss_cons (ps_setLc (i := 3) (own := [("_law_part", 7)]) (g := (gName 7)) (tt := tYes) rfl sc_law_parts.nd rfl rfl (sw_true rfl rfl rfl (by decide +kernel)) (pi_range1 rfl T.range (pa_cons (pe_op op_add pe_int (pe_op op_mod (pe_cal c_law_mix hr (by decide : (1 : Nat) ≤ 1) rfl (pa_cons (pv 2) (pa_cons pe_int pa_nil))) pe_int)) pa_nil)) (blkOk_by (N := ["_law_script", "_law_lot_here", "_law_cell", "_law_got", "_law_words", "_law_k", "_law_word", "_law_part"]) (sc := defScope s_law_parts) (by decide +kernel)) (fun _ _ _ _ _ => (pg_name (i := 7) sc_law_parts.nd rfl (Or.inl rfl))) (fun _ _ _ _ _ => pts_nil) (fun _ _ _ _ _ => (pe_lst pa_nil)))
    (pss_cons (ps_set (i := 4) sc_law_parts.nd rfl (Or.inl rfl) (pe_sortedSet (by rfl) T.sorted (by rfl) T.set (pe_callB (cr_sumL rfl) (by rfl) T.sum (by decide +kernel) (pa_cons (pv 1) (pa_cons (pe_lst (pa_cons pe_str (pa_cons pe_str pa_nil))) pa_nil)))))
    (pss_cons (ps_for PassesOwn.never rfl (pi_enum (by rfl) T.enumerate (pa_cons (pv 4) pa_nil)) (pg_tup rfl (pgs_cons (pg_name (i := 5) sc_law_parts.nd rfl (Or.inl rfl)) (pgs_cons (pg_name (i := 6) sc_law_parts.nd rfl (Or.inl rfl)) pgs_nil))) (pss_cons (ps_if (PW.pt (pw_or (pt_cmpR (k_nin K rfl) (pv 6) (pe_lst (pa_cons pe_str (pa_cons pe_str pa_nil))) (by rfl)) (pw_or1 (pt_cmpR op_eq (pe_op op_mod (pe_cal c_law_mix hr (by decide : (1 : Nat) ≤ 1) rfl (pa_cons (pv 2) (pa_cons pe_int pa_nil))) pe_int) pe_int (nomark _))))) (pss_cons (ps_set (i := 7) sc_law_parts.nd rfl (Or.inl rfl) (pe_ix (k_ixL K rfl) (pv 3) (pe_op op_mod (pe_cal c_law_mix hr (by decide : (1 : Nat) ≤ 1) rfl (pa_cons (pv 2) (pa_cons (pe_op op_add pe_int (pv 5)) pa_nil))) (pe_callB (k_len K rfl) (by rfl) T.len PySem.boot_len (pa_cons (pv 3) pa_nil))) (fun _ _ => rfl)))
    (pss_cons (ps_expr (pe_bm PySem.F.plainAttrs_list PySem.F.slot_list_insert PySem.F.type_list_insert mt_insert (pv 7) (pa_cons (pe_op op_mod (pe_cal c_law_mix hr (by decide : (1 : Nat) ≤ 1) rfl (pa_cons (pv 2) (pa_cons (pe_op op_add pe_int (pv 5)) pa_nil))) (pe_op op_add (pe_callB (k_len K rfl) (by rfl) T.len PySem.boot_len (pa_cons (pv 7) pa_nil)) pe_int)) (pa_cons (pv 6) pa_nil))))
    pss_nil)) pss_nil)
    pss_nil))
    (pss_cons (ps_ret (pv 3))
    pss_nil))))), ?_⟩)
  rintro ⟨s, l⟩ h
  dsimp only at h ⊢
  have hn := h.n
  let c := cellAt s 13
  have m12 := mixF_mod c 0 (n := 12) (by decide)
  let m : Nat := (1 + mixF c 0 % 12).toNat
  have hm : 0 < m ∧ m ≤ 12 := ⟨by show 0 < (1 + mixF c 0 % 12).toNat; omega, by show (1 + mixF c 0 % 12).toNat ≤ 12; omega⟩
  have fl := flat_len (n := 13) (m := 20) (l := l) hn fun u hu => (h.s u hu).ok.l
  refine go_asg (d := dI c) (ev_call (ea_cons (ev_var rfl) (ea_cons ev_int ea_nil)) ⟨(s, 13), trivial, rfl, rfl⟩) ?_
  refine go_asgLL (List.range m) (fun k : Nat => dI (k : Int)) _ _ (wi_range1 (n := 1 + mixF c 0 % 12) (ea_cons (ev_op ev_int (ev_op (ev_call (ea_cons (ev_var rfl) (ea_cons ev_int ea_nil)) ⟨(c, 0), Nat.zero_le _, rfl, rfl⟩) ev_int (rv_mod (by decide))) rv_add) ea_nil) (by omega) (by omega)) (fun _ => tg_name) (by rw [List.length_range]; omega) (by decide) ?_ (Nat.le_of_ble_eq_true rfl)
  rw [List.length_range]
  refine go_asg (ev_sortedSet (xs := xyL ++ l.flatten) (ev_cb (ea_cons (ev_var rfl) (ea_cons ((en_lst (ea_cons ev_str (ea_cons ev_str ea_nil)))).ev ea_nil)) (rc_sumL (ws := xyL) (by show 2 + _ ≤ _; omega))) ⟨namesL ++ (["x", "y."] : List Str), by decide, fun z hz => by
    rcases List.mem_append.mp hz with q | q
    · exact List.mem_append_right _ q
    · obtain ⟨u, hu, hx⟩ := List.mem_flatten.mp q
      exact List.mem_append_left _ ((h.s u hu).sub z hx)⟩ (by rw [List.length_append]; show 2 + _ ≤ _; omega)) ?_
  refine go_ex (i := 4) (P := fun ys : List Str => (∀ z, z ∈ ys ↔ z ∈ xyL ++ l.flatten) ∧ ys.Nodup) (D := dLS) rfl fun ws hw => ?_
  have okp := parts_ok (c := c) h.s hw.1 hw.2 hm.1 hm.2
  have wl : ws.length ≤ 20 := Nat.le_trans (nd_len (u := namesL ++ (["x", "y."] : List Str)) hw.2 fun z hz => by
    rcases List.mem_append.mp ((hw.1 z).mp hz) with q | q
    · exact List.mem_append_right _ q
    · obtain ⟨u, hu, hx⟩ := List.mem_flatten.mp q
      exact List.mem_append_left _ ((h.s u hu).sub z hx)) (by decide)
  refine go_for _ _ _ _ (fun pre => [some (dIs s), some (dLot l), some (dI c), none, some (dLS ws), none, none, none]) (fun pre => some (oLL 3 (pre.foldl (pstep c ws) (List.replicate m [])))) (wi_enumR (xs := ws) (δ := dS) (ea_cons (ev_var rfl) ea_nil)) (fun _ => tg_tup2) (by walk_at "mu le") rfl (fun pre i post e => ?_) ?_ (fun _ _ e => by cases e; exact of_decide_eq_true rfl)
  · obtain ⟨e1, e2⟩ := range_len e
    obtain ⟨i1, i2⟩ := pst_inv c ws m hm.1 pre
    generalize hp : pre.foldl (pstep c ws) (List.replicate m []) = pss at i1 i2
    refine go_if (b := ptake c (gt ws i)) (et_or (et_test (ev_op (ev_var rfl) ((en_lst (ea_cons ev_str (ea_cons ev_str ea_nil)))).ev (rv_nin (xs := xyL)))) (fun _ => (et_test (ev_op (ev_op (ev_call (ea_cons (ev_var rfl) (ea_cons ev_int ea_nil)) ⟨(c, 1), (by show (1 : Nat) ≤ 1000; decide), rfl, rfl⟩) ev_int (rv_mod (by decide))) ev_int rv_eqI)))) (fun hb => ?_) (fun hb => ?_)
    · have n1 := pn_lt (c := c) (n := pss.length) (i := i) (by omega)
      have mm := mixF_mod c (2 + i) (n := (pss.length : Int)) (by omega)
      have m3 := mixF_mod c (30 + i) (n := ((gt pss (pn c pss.length i)).length : Int) + 1) (by omega)
      have gl : (gt pss (pn c pss.length i)).length ≤ 20 := by
        have h1 := (List.sublist_flatten_of_mem (gt_mem n1)).length_le
        have h2 := i2.length_eq
        have h3 := List.length_filter_le (ptake c) (pre.map (gt ws))
        rw [List.length_map] at h3
        omega
      refine go_assoc (go_insLL (n := pn c pss.length i) (m := pm c (gt pss (pn c pss.length i)).length i) ((ev_op (ev_call (ea_cons (ev_var rfl) (ea_cons (ev_op ev_int (ev_var rfl) rv_add) ea_nil)) ⟨(c, 2 + i), (by show 2 + i ≤ 1000; omega), rfl, rfl⟩) ((ev_cb (ea_cons (ev_var rfl) ea_nil) rc_len).is (by rw [List.length_map])) (rv_mod (by omega))).is (show _ = dI ((pn c pss.length i : Nat) : Int) by
          unfold pn
          congr 1
          dsimp only
          omega)) n1 ((ev_op (ev_call (ea_cons (ev_var rfl) (ea_cons (ev_op ev_int (ev_var rfl) rv_add) ea_nil)) ⟨(c, 30 + i), (by show 30 + i ≤ 1000; omega), rfl, rfl⟩) (ev_op ((ev_cb (ea_cons (ev_var rfl) ea_nil) rc_len).is (by rw [List.length_map])) ev_int rv_add) (rv_mod (by omega))).is (show _ = dI ((pm c (gt pss (pn c pss.length i)).length i : Nat) : Int) by
          unfold pm
          congr 1
          dsimp only
          omega)) (ev_var rfl) (by omega) (by have := pm_le c (gt pss (pn c pss.length i)).length i; omega) (by decide) (Nat.le_of_ble_eq_true rfl) ?_)
      refine go_nextz (go_nextz (go_nextO (by walk_at "mu le") ?_))
      rw [List.foldl_append, hp]
      exact congrArg (fun z => some (oLL 3 z)) (show _ = pstep c ws pss i from (if_pos hb).symm)
    · refine go_nextz (go_nextO (by walk_at "mu le") ?_)
      rw [List.foldl_append, hp]
      exact congrArg (fun z => some (oLL 3 z)) (show _ = pstep c ws pss i from (if_neg (by rw [hb]; decide)).symm)
  · refine go_tellLL ?_
    exact go_ret (Ev.ex okp (ev_var rfl))
end
end Mu
/-! The law. -/
namespace Mu
open PySem PySem.Spec PyProof.Rows L2
local macro_rules | `(tactic| walk_at "mu le") => `(tactic| (repeat (first | exact trivial | refine ⟨by first | exact Or.inr rfl | exact Or.inl rfl, ?_⟩)))
abbrev Pr := Int × Int × (Int × Int)
abbrev Rw := Int × Int × Int
def cutAt {α : Type} (xs : List α) (i : Nat) (ys : List α) : List α := xs.take i ++ ys ++ xs.drop (i + 1)
def Pap.withRows : Pap → List Rw → Pap
  | .all _, r => .all r
  | .ends o es _, r => .ends o es r
  | .parts ps _, r => .parts ps r
def wP (prs : List Pr) (p : Pap) (n : Int) : List (List Pr × PapX) := if prs = [] then [] else
  [(cutAt prs (n % prs.length).toNat [], .good p),
   (cutAt prs (n % prs.length).toNat [((gt prs (n % prs.length).toNat).1, (gt prs (n % prs.length).toNat).2.1, ((gt prs (n % prs.length).toNat).2.2.1, (gt prs (n % prs.length).toNat).2.2.2 + 1))], .good p),
   (cutAt prs (n % prs.length).toNat [((gt prs (n % prs.length).toNat).2.1, (gt prs (n % prs.length).toNat).1, (gt prs (n % prs.length).toNat).2.2)], .good p),
   (prs ++ [gt prs (n % prs.length).toNat], .good p)]
def wR (prs : List Pr) (p : Pap) (n : Int) : List (List Pr × PapX) := if p.rows = [] then [] else
  [(prs, .good (p.withRows (cutAt p.rows (n / 64 % p.rows.length).toNat []))),
   (prs, .good (p.withRows (cutAt p.rows (n / 64 % p.rows.length).toNat [((gt p.rows (n / 64 % p.rows.length).toNat).1, (gt p.rows (n / 64 % p.rows.length).toNat).2.1, (gt p.rows (n / 64 % p.rows.length).toNat).2.2 + 1)]))),
   (prs, .good (p.withRows (p.rows ++ [gt p.rows (n / 64 % p.rows.length).toNat])))]
abbrev wrongW : List Str := ["pairs", "lengths", "places", "part", "All"]
def wrongF (prs : List Pr) (p : Pap) (n : Int) : List (List Pr × PapX) := wP prs p n ++ wR prs p n ++ wrongW.map (fun w => (prs, PapX.bad w p)) ++ [(prs, PapX.cut p)]
abbrev dWr (q : List Pr × PapX) : Dn := dT [dL (q.1.map dPr), q.2.d]
theorem cutN_to {α : Type} (xs : List α) (i : Nat) : cutD xs none (some (i : Int)) = xs.take i := by
  rw [cut_to (by omega)]; rfl
theorem cutN_from {α : Type} (xs : List α) (i : Nat) : cutD xs (some ((i : Int) + 1)) none = xs.drop (i + 1) := by
  rw [cut_from (by omega)]; rfl
theorem cutAt_map {α : Type} (δ : α → Dn) (xs : List α) (i : Nat) (ys : List α) : cutD (xs.map δ) none (some (i : Int)) ++ ys.map δ ++ cutD (xs.map δ) (some ((i : Int) + 1)) none = (cutAt xs i ys).map δ := by
  unfold cutAt
  rw [cutN_to, cutN_from, List.map_append, List.map_append, List.map_take, List.map_drop]
theorem cutAt_map0 {α : Type} (δ : α → Dn) (xs : List α) (i : Nat) : cutD (xs.map δ) none (some (i : Int)) ++ cutD (xs.map δ) (some ((i : Int) + 1)) none = (cutAt xs i []).map δ := by
  rw [← cutAt_map, List.map_nil, List.append_nil]
theorem cut_len {α : Type} (xs : List α) (lo hi : Option Int) : (cutD xs lo hi).length ≤ xs.length := by
  unfold cutD
  rw [List.length_take, List.length_drop]
  omega
theorem pap_rows (p : Pap) : atI (dS p.way :: p.tl) (-1) = some (dL (p.rows.map dRow)) := by cases p <;> rfl
theorem pap_cut (p : Pap) (r : List Rw) : cutD (dS p.way :: p.tl) none (some (-1)) ++ [dL (r.map dRow)] = dS (p.withRows r).way :: (p.withRows r).tl := by cases p <;> rfl
theorem pap_cut_ne (p : Pap) : cutD (dS p.way :: p.tl) none (some (-1)) ≠ [] := by cases p <;> exact List.cons_ne_nil _ _
theorem pap_len (p : Pap) : (dS p.way :: p.tl).length ≤ 4 := by cases p <;> exact Nat.le_of_ble_eq_true rfl
theorem pap_cut_hw (p : Pap) : ¬ (HT.sIx (dS p.way :: p.tl).length 0 none = 0 ∧ HT.sIx (dS p.way :: p.tl).length (dS p.way :: p.tl).length (some (-1)) = (dS p.way :: p.tl).length) := by
  cases p with
  | all _ => exact fun h => absurd h.2 (by show ¬ HT.sIx 2 2 (some (-1)) = 2; decide)
  | ends _ _ _ => exact fun h => absurd h.2 (by show ¬ HT.sIx 4 4 (some (-1)) = 4; decide)
  | parts _ _ => exact fun h => absurd h.2 (by show ¬ HT.sIx 3 3 (some (-1)) = 3; decide)
theorem pap_tl (p : Pap) : cutD (dS p.way :: p.tl) (some 1) none = p.tl := by cases p <;> rfl
theorem pap_tl_hw (p : Pap) : ¬ (HT.sIx (dS p.way :: p.tl).length 0 (some 1) = 0 ∧ HT.sIx (dS p.way :: p.tl).length (dS p.way :: p.tl).length none = (dS p.way :: p.tl).length) := by
  cases p with
  | all _ => exact fun h => absurd h.1 (by show ¬ HT.sIx 2 0 (some 1) = 0; decide)
  | ends _ _ _ => exact fun h => absurd h.1 (by show ¬ HT.sIx 4 0 (some 1) = 0; decide)
  | parts _ _ => exact fun h => absurd h.1 (by show ¬ HT.sIx 3 0 (some 1) = 0; decide)
theorem withRows_rows (p : Pap) (r : List Rw) : (p.withRows r).rows = r := by cases p <;> rfl
theorem withRows_J (p : Pap) (r : List Rw) {k : Kd} {t b : Int} {l : List (List Str)} {W : Wt} : (p.withRows r).J k t b l W = p.J k t b l W := by cases p <;> rfl
theorem withRows_ok (p : Pap) (r : List Rw) {k : Kd} {t b : Int} {l : List (List Str)} {W : Wt} (h : OkPap k t b l W p) : OkPap k t b l W (p.withRows r) := by cases p <;> exact h
/-- what the law asks of a good paper -/
structure GoodP (k : Kd) (t b : Int) (l : List (List Str)) (W : Wt) (p : Pap) : Prop where
  ok : OkPap k t b l W p
  r : p.rows.Perm ((p.J k t b l W).map (rowOf l W))
theorem GoodP.len {k : Kd} {t b : Int} {l : List (List Str)} {W : Wt} {p : Pap} (h : GoodP k t b l W p) (hn : l.length ≤ 13) : p.rows.length ≤ 169 := by
  rw [h.r.length_eq, List.length_map]
  unfold Pap.J
  exact Nat.le_trans (List.length_filter_le _ _) (JI_len hn)
theorem cutAt_self {α : Type} [Inhabited α] {xs : List α} {i : Nat} (h : i < xs.length) : cutAt xs i [gt xs i] = xs := by
  unfold cutAt
  have e := gt_lt h
  obtain ⟨h1, h2⟩ := List.getElem?_eq_some_iff.mp e
  rw [List.append_assoc]
  show xs.take i ++ (gt xs i :: xs.drop (i + 1)) = xs
  rw [← h2, List.getElem_cons_drop, List.take_append_drop]
theorem cutAt_ne {α : Type} [Inhabited α] {xs ys : List α} {i : Nat} {y : α} (h : i < xs.length) (p : xs.Perm ys) (hy : y ≠ gt xs i) : ¬ (cutAt xs i [y]).Perm ys := fun q => by
  have q2 := q.trans p.symm
  rw [← cutAt_self h] at q2
  have e : cutAt (cutAt xs i [gt xs i]) i [y] = cutAt xs i [y] := by rw [cutAt_self h]
  have q3 : (cutAt xs i [y]).Perm (cutAt xs i [gt xs i]) := by
    rw [e] at q2
    exact q2
  unfold cutAt at q3
  have q4 := (List.perm_append_right_iff _).mp q3
  have q5 := (List.perm_append_left_iff _).mp q4
  exact hy (List.singleton_perm_singleton.mp q5)
theorem cutAt_sh {α : Type} {xs ys : List α} {i : Nat} (h : i < xs.length) (p : xs.Perm ys) : ¬ (cutAt xs i []).Perm ys := fun q => by
  have h1 := q.length_eq
  have h2 := p.length_eq
  unfold cutAt at h1
  rw [List.append_nil, List.length_append, List.length_take, List.length_drop] at h1
  omega
theorem snoc_ne {α : Type} {xs ys : List α} {y : α} (p : xs.Perm ys) : ¬ (xs ++ [y]).Perm ys := fun q => by
  have h1 := q.length_eq
  have h2 := p.length_eq
  rw [List.length_append] at h1
  simp at h1
  omega
/-- none of the wrong ones is taken -/
theorem wrong_no {k : Kd} {t b : Int} {l : List (List Str)} {W : Wt} {p : Pap} {prs : List Pr} {n : Int} (hp : GoodP k t b l W p) (hq : prs.Perm (((p.J k t b l W).filter (alikeF k t b l W)).map (prOf k l W))) : ∀ q ∈ wrongF prs p n, showsB k t b l W q.1 q.2 = false := fun q hm => by
  have gd : ∀ (u : List Pr) (p' : Pap), p'.J k t b l W = p.J k t b l W → (¬ p'.rows.Perm ((p.J k t b l W).map (rowOf l W)) ∨ ¬ u.Perm (((p.J k t b l W).filter (alikeF k t b l W)).map (prOf k l W))) → showsB k t b l W u (.good p') = false := fun u p' e h => by
    show (decide _ && decide _) = false
    rw [e]
    rcases h with h | h
    · rw [decide_eq_false h, Bool.false_and]
    · rw [decide_eq_false h, Bool.and_false]
  have ij : ∀ x ∈ prs, x.1 ≠ x.2.1 := fun x hx => by
    obtain ⟨r, hr, e⟩ := List.mem_map.mp (hq.mem_iff.mp hx)
    have := (List.mem_filter.mp (List.mem_filter.mp hr).1).1
    rw [mem_JI] at this
    rw [← e]
    show (r.1 : Int) ≠ (r.2 : Int)
    omega
  unfold wrongF at hm
  rw [List.mem_append, List.mem_append, List.mem_append] at hm
  rcases hm with ((hm | hm) | hm) | hm
  · unfold wP at hm
    split at hm
    · cases hm
    · rename_i hne
      have hl := List.length_pos_iff.mpr hne
      have m1 := Int.emod_nonneg n (by omega : (prs.length : Int) ≠ 0)
      have m2 := Int.emod_lt_of_pos n (by omega : (0 : Int) < prs.length)
      have hi : (n % prs.length).toNat < prs.length := by omega
      have hx := ij _ (gt_mem hi)
      generalize (n % (prs.length : Int)).toNat = i at hm hi hx
      rcases List.mem_cons.mp hm with rfl | hm
      · exact gd _ _ rfl (.inr (cutAt_sh hi hq))
      rcases List.mem_cons.mp hm with rfl | hm
      · refine gd _ _ rfl (.inr (cutAt_ne hi hq fun e => ?_))
        have : (gt prs i).2.2.2 + 1 = (gt prs i).2.2.2 := congrArg (fun z : Pr => z.2.2.2) e
        omega
      rcases List.mem_cons.mp hm with rfl | hm
      · refine gd _ _ rfl (.inr (cutAt_ne hi hq fun e => ?_))
        exact hx (congrArg (fun z : Pr => z.1) e).symm
      rcases List.mem_cons.mp hm with rfl | hm
      · exact gd _ _ rfl (.inr (snoc_ne hq))
      · cases hm
  · unfold wR at hm
    split at hm
    · cases hm
    · rename_i hne
      have hl := List.length_pos_iff.mpr hne
      have m1 := Int.emod_nonneg (n / 64) (by omega : (p.rows.length : Int) ≠ 0)
      have m2 := Int.emod_lt_of_pos (n / 64) (by omega : (0 : Int) < p.rows.length)
      have hi : (n / 64 % p.rows.length).toNat < p.rows.length := by omega
      generalize (n / 64 % (p.rows.length : Int)).toNat = i at hm hi
      rcases List.mem_cons.mp hm with rfl | hm
      · exact gd _ _ (withRows_J _ _) (.inl (by rw [withRows_rows]; exact cutAt_sh hi hp.r))
      rcases List.mem_cons.mp hm with rfl | hm
      · refine gd _ _ (withRows_J _ _) (.inl (by
          rw [withRows_rows]
          refine cutAt_ne hi hp.r fun e => ?_
          have : (gt p.rows i).2.2 + 1 = (gt p.rows i).2.2 := congrArg (fun z : Rw => z.2.2) e
          omega))
      rcases List.mem_cons.mp hm with rfl | hm
      · exact gd _ _ (withRows_J _ _) (.inl (by rw [withRows_rows]; exact snoc_ne hp.r))
      · cases hm
  · obtain ⟨w, _, rfl⟩ := List.mem_map.mp hm
    rfl
  · rw [List.mem_singleton] at hm
    subst hm
    rfl
theorem wrongW_no : ∀ w ∈ wrongW, w ≠ "all" ∧ w ≠ "beginnings" ∧ w ≠ "parts" := by decide +kernel
/-- each may be asked about -/
theorem wrong_ok {k : Kd} {t b : Int} {l : List (List Str)} {W : Wt} {p : Pap} {prs : List Pr} {n : Int} (hp : OkPap k t b l W p) (h1 : prs.length ≤ 200) (h2 : p.rows.length ≤ 200) : ∀ q ∈ wrongF prs p n, OkX k t b l W q.2 ∧ q.1.length ≤ 1000 ∧ ∀ p', q.2 = .good p' → p'.rows.length ≤ 1000 := fun q hm => by
  have cl : ∀ {α : Type} (xs : List α) (i : Nat) (ys : List α), (cutAt xs i ys).length ≤ xs.length + ys.length := fun xs i ys => by
    unfold cutAt
    rw [List.length_append, List.length_append, List.length_take, List.length_drop]
    omega
  have g : ∀ (u : List Pr) (p' : Pap), OkPap k t b l W p' → u.length ≤ 1000 → p'.rows.length ≤ 1000 → OkX k t b l W (.good p') ∧ u.length ≤ 1000 ∧ ∀ p'', PapX.good p' = .good p'' → p''.rows.length ≤ 1000 := fun u p' a b' c => ⟨a, b', fun p'' e => by cases e; exact c⟩
  unfold wrongF at hm
  rw [List.mem_append, List.mem_append, List.mem_append] at hm
  rcases hm with ((hm | hm) | hm) | hm
  · unfold wP at hm
    split at hm
    · cases hm
    · generalize (n % (prs.length : Int)).toNat = i at hm
      rcases List.mem_cons.mp hm with rfl | hm
      · exact g _ _ hp (Nat.le_trans (cl _ _ _) (by show prs.length + 0 ≤ _; omega)) (by omega)
      rcases List.mem_cons.mp hm with rfl | hm
      · exact g _ _ hp (Nat.le_trans (cl _ _ _) (by show prs.length + 1 ≤ _; omega)) (by omega)
      rcases List.mem_cons.mp hm with rfl | hm
      · exact g _ _ hp (Nat.le_trans (cl _ _ _) (by show prs.length + 1 ≤ _; omega)) (by omega)
      rcases List.mem_cons.mp hm with rfl | hm
      · exact g _ _ hp (by rw [List.length_append]; show prs.length + 1 ≤ _; omega) (by omega)
      · cases hm
  · unfold wR at hm
    split at hm
    · cases hm
    · generalize (n / 64 % (p.rows.length : Int)).toNat = i at hm
      rcases List.mem_cons.mp hm with rfl | hm
      · exact g _ _ (withRows_ok _ _ hp) (by show prs.length ≤ 1000; omega) (by rw [withRows_rows]; exact Nat.le_trans (cl _ _ _) (by show p.rows.length + 0 ≤ _; omega))
      rcases List.mem_cons.mp hm with rfl | hm
      · exact g _ _ (withRows_ok _ _ hp) (by show prs.length ≤ 1000; omega) (by rw [withRows_rows]; exact Nat.le_trans (cl _ _ _) (by show p.rows.length + 1 ≤ _; omega))
      rcases List.mem_cons.mp hm with rfl | hm
      · exact g _ _ (withRows_ok _ _ hp) (by show prs.length ≤ 1000; omega) (by rw [withRows_rows, List.length_append]; show p.rows.length + 1 ≤ _; omega)
      · cases hm
  · obtain ⟨w, hw, rfl⟩ := List.mem_map.mp hm
    exact ⟨wrongW_no w hw, by show prs.length ≤ _; omega, fun p' e => nomatch e⟩
  · rw [List.mem_singleton] at hm
    subst hm
    exact ⟨trivial, by show prs.length ≤ _; omega, fun p' e => nomatch e⟩
section
variable {P : Program} {w : World} {K : PySem.W.Frag} {mg : Str → Option Value} {base : Heap} {kA : Addr}
def f_law_paper := Fs (fun x : List Int × Kd × (Int × Int) × List (List Str) × Wt => Lst x.2.2.1.1 x.2.2.1.2 ∧ NmLot x.2.2.2.1 ∧ OkW x.2.2.2.2) (fun x => [dIs x.1, dK x.2.1, d2 x.2.2.1, dLot x.2.2.2.1, dWt x.2.2.2.2])
  (fun x => dEx (GoodP x.2.1 x.2.2.1.1 x.2.2.1.2 x.2.2.2.1 x.2.2.2.2) Pap.d)
abbrev wayL : List Str := ["all", "beginnings", "parts"]
theorem way_at {i : Nat} (h : i < 3) : gt wayL i = "all" ∨ gt wayL i = "parts" ∨ gt wayL i = "beginnings" := by
  match i, h with
  | 0, _ => exact .inl rfl
  | 1, _ => exact .inr (.inr rfl)
  | 2, _ => exact .inr (.inl rfl)
theorem ds_w : decide (("parts" : Str) = "all") = false ∧ decide (("beginnings" : Str) = "all") = false ∧ decide (("beginnings" : Str) = "parts") = false := by decide
theorem rows_dn (l : List (List Str)) (W : Wt) (js : List (Nat × Nat)) (n : Int) : dL (shuf (((js.map (rowOf l W)).map dRow)) n) = dL ((shuf (js.map (rowOf l W)) n).map dRow) := congrArg dL (shuf_map dRow _ n)
theorem IJ_mem {n : Nat} {f : Nat × Nat → Bool} {p : Nat × Nat} (h : p ∈ (IJ n).filter f) : p.1 < n ∧ p.2 < n := by
  have := (List.mem_filter.mp h).1
  rw [mem_IJ] at this
  omega
theorem IJ_len {n : Nat} (h : n ≤ 13) (f : Nat × Nat → Bool) : ((IJ n).filter f).length ≤ 169 := by
  refine Nat.le_trans (List.length_filter_le _ _) ?_
  rw [(IJ_JI n).length_eq]
  exact JI_len h
theorem sc_law_paper : FnScope ["_law_script", "_law_kind_here", "_law_least_here", "_law_lot_here", "_law_weights_here", "_law_cell", "_law_way", "_law_far", "_law_some", "_law_parts_here", "_law_order_here", "_law_ends_here"] ["_law_script", "_law_kind_here", "_law_least_here", "_law_lot_here", "_law_weights_here"] (defScope s_law_paper) := ⟨rfl, rfl, rfl, by decide +kernel, rfl, by decide +kernel, by decide +kernel⟩
theorem bd_law_paper : BindOk "_law_paper" s_law_paper ["_law_script", "_law_kind_here", "_law_least_here", "_law_lot_here", "_law_weights_here"] := fun _ _ _ _ _ _ us hl => match us, hl with | [_, _, _, _, _], _ => rfl
theorem ok_law_paper (T : Txt K mg kA signsZ kindsL) (F : DefF K mg "_law_paper" s_law_paper) (c_law_cell_at : Cal P w K mg base 1 "_law_cell_at" (spF f_law_cell_at)) (c_law_mix : Cal P w K mg base 1 "_law_mix" (spF f_law_mix)) (c_law_order : Cal P w K mg base 2 "_law_order" (spF f_law_order)) (c_law_parts : Cal P w K mg base 2 "_law_parts" (spF f_law_parts)) (c_law_held : Cal P w K mg base 6 "_law_held" (spF f_law_held)) (c_law_ends : Cal P w K mg base 5 "_law_ends" (spF f_law_ends)) (c_law_by_ends : Cal P w K mg base 3 "_law_by_ends" (spF f_law_by_ends)) (c_law_rows : Cal P w K mg base 3 "_law_rows" (spF f_law_rows)) (c_law_shuffled : Cal P w K mg base 2 "_law_shuffled" (spF f_law_shuffled)) : Cal P w K mg base 7 "_law_paper" (spF f_law_paper) := by
  refine cal_fs F sc_law_paper bd_law_paper (fun z => by first | rfl | (cases z <;> rfl)) (fun f cdv A outer s H E hr => ⟨_, (pss_cons (ps_set (i := 5) sc_law_paper.nd rfl (Or.inl rfl) (pe_cal c_law_cell_at hr (by decide : (1 : Nat) ≤ 6) rfl (pa_cons (pv 0) (pa_cons pe_int pa_nil))))
    (pss_cons (ps_set (i := 6) sc_law_paper.nd rfl (Or.inl rfl) (pe_ix (k_ixL K rfl) (pe_lst (pa_cons pe_str (pa_cons pe_str (pa_cons pe_str pa_nil)))) (pe_op op_mod (pe_cal c_law_mix hr (by decide : (1 : Nat) ≤ 6) rfl (pa_cons (pv 5) (pa_cons pe_int pa_nil))) pe_int) (fun _ _ => rfl)))
    (pss_cons (ps_set (i := 7) sc_law_paper.nd rfl (Or.inl rfl) (pe_op op_add (pe_op op_mulW (pe_cal c_law_mix hr (by decide : (1 : Nat) ≤ 6) rfl (pa_cons (pv 5) (pa_cons pe_int pa_nil))) pe_int) (pe_cal c_law_mix hr (by decide : (1 : Nat) ≤ 6) rfl (pa_cons (pv 5) (pa_cons pe_int pa_nil)))))
    (pss_cons (ps_if (pt_cmpR op_eq (pv 6) pe_str (nomark _)) (pss_cons (ps_set (i := 8) sc_law_paper.nd rfl (Or.inl rfl) (pe_cal c_law_held hr (by decide : (6 : Nat) ≤ 6) rfl (pa_cons pe_str (pa_cons (pv 1) (pa_cons (pv 2) (pa_cons (pv 3) (pa_cons (pv 4) (pa_cons pe_non pa_nil))))))))
    (pss_cons (ps_ret (pe_tup (pa_cons pe_str (pa_cons (pe_cal c_law_shuffled hr (by decide : (2 : Nat) ≤ 6) rfl (pa_cons (pe_cal c_law_rows hr (by decide : (3 : Nat) ≤ 6) rfl (pa_cons (pv 3) (pa_cons (pv 4) (pa_cons (pv 8) pa_nil)))) (pa_cons (pv 7) pa_nil))) pa_nil))))
    pss_nil)) pss_nil)
    (pss_cons (ps_if (pt_cmpR op_eq (pv 6) pe_str (nomark _)) (pss_cons (ps_set (i := 9) sc_law_paper.nd rfl (Or.inl rfl) (pe_cal c_law_parts hr (by decide : (2 : Nat) ≤ 6) rfl (pa_cons (pv 0) (pa_cons (pv 3) pa_nil))))
    (pss_cons (ps_set (i := 8) sc_law_paper.nd rfl (Or.inl rfl) (pe_cal c_law_held hr (by decide : (6 : Nat) ≤ 6) rfl (pa_cons pe_str (pa_cons (pv 1) (pa_cons (pv 2) (pa_cons (pv 3) (pa_cons (pv 4) (pa_cons (pv 9) pa_nil))))))))
    (pss_cons (ps_ret (pe_tup (pa_cons pe_str (pa_cons (pv 9) (pa_cons (pe_cal c_law_shuffled hr (by decide : (2 : Nat) ≤ 6) rfl (pa_cons (pe_cal c_law_rows hr (by decide : (3 : Nat) ≤ 6) rfl (pa_cons (pv 3) (pa_cons (pv 4) (pa_cons (pv 8) pa_nil)))) (pa_cons (pv 7) pa_nil))) pa_nil)))))
    pss_nil))) pss_nil)
    (pss_cons (ps_set (i := 10) sc_law_paper.nd rfl (Or.inl rfl) (pe_cal c_law_order hr (by decide : (2 : Nat) ≤ 6) rfl (pa_cons (pv 0) (pa_cons (pv 3) pa_nil))))
    (pss_cons (ps_set (i := 11) sc_law_paper.nd rfl (Or.inl rfl) (pe_cal c_law_ends hr (by decide : (5 : Nat) ≤ 6) rfl (pa_cons (pv 1) (pa_cons (pv 2) (pa_cons (pv 3) (pa_cons (pv 4) (pa_cons (pv 10) (pa_cons (pe_cal c_law_cell_at hr (by decide : (1 : Nat) ≤ 6) rfl (pa_cons (pv 0) (pa_cons pe_int pa_nil))) pa_nil))))))))
    (pss_cons (ps_set (i := 8) sc_law_paper.nd rfl (Or.inl rfl) (pe_cal c_law_by_ends hr (by decide : (3 : Nat) ≤ 6) rfl (pa_cons (pv 1) (pa_cons (pv 2) (pa_cons (pv 3) (pa_cons (pv 4) (pa_cons (pv 10) (pa_cons (pv 11) pa_nil))))))))
    (pss_cons (ps_ret (pe_tup (pa_cons pe_str (pa_cons (pv 10) (pa_cons (pv 11) (pa_cons (pe_cal c_law_shuffled hr (by decide : (2 : Nat) ≤ 6) rfl (pa_cons (pe_cal c_law_rows hr (by decide : (3 : Nat) ≤ 6) rfl (pa_cons (pv 3) (pa_cons (pv 4) (pa_cons (pv 8) pa_nil)))) (pa_cons (pv 7) pa_nil))) pa_nil))))))
    pss_nil))))))))), ?_⟩)
  rintro ⟨s, k, ⟨t, b⟩, l, W⟩ ⟨h1, h2, h3⟩
  dsimp only at h1 h2 h3 ⊢
  have hn := h2.n
  have ok := h2.ok
  let c := cellAt s 14
  have m3 := mixF_mod c 0 (n := 3) (by decide)
  have n1 : Bt 9 (mixF c 1) := ⟨(mixF_bd c 1).1, by have := (mixF_bd c 1).2; omega⟩
  let far := mixF c 1 * 1000003 + mixF c 2
  have rl : ∀ f : Nat × Nat → Bool, (((IJ l.length).filter f).map (rowOf l W)).length ≤ 1000 := fun f => by rw [List.length_map]; have := IJ_len hn f; omega
  refine go_asg (d := dI c) (ev_call (ea_cons (ev_var rfl) (ea_cons ev_int ea_nil)) ⟨(s, 14), trivial, rfl, rfl⟩) ?_
  refine go_asg (d := dS (gt wayL (mixF c 0 % 3).toNat)) (ev_op ((en_lst (ea_cons ev_str (ea_cons ev_str (ea_cons ev_str ea_nil))))).ev (ev_op (ev_call (ea_cons (ev_var rfl) (ea_cons ev_int ea_nil)) ⟨(c, 0), Nat.zero_le _, rfl, rfl⟩) ev_int (rv_mod (by decide))) (rv_ixL (atI_int (xs := wayL) dS m3.1 m3.2))) ?_
  refine go_asg (d := dI far) (ev_op (ev_op (ev_call (ea_cons (ev_var rfl) (ea_cons ev_int ea_nil)) ⟨(c, 1), (by show (1 : Nat) ≤ 1000; decide), rfl, rfl⟩) ev_int (rv_mul (n1.cm (n := 7) ⟨by decide, by decide⟩))) (ev_call (ea_cons (ev_var rfl) (ea_cons ev_int ea_nil)) ⟨(c, 2), (by show (2 : Nat) ≤ 1000; decide), rfl, rfl⟩) rv_add) ?_
  have wy := way_at (i := (mixF c 0 % 3).toNat) (by omega)
  generalize gt wayL (mixF c 0 % 3).toNat = way at wy
  refine go_if (et_test (ev_op (ev_var rfl) ev_str rv_eqS)) (fun hb => ?_) (fun hb => ?_)
  · refine go_assoc ?_
    refine go_asg (ev_call (ea_cons ev_str (ea_cons (ev_var rfl) (ea_cons (ev_var rfl) (ea_cons (ev_var rfl) (ea_cons (ev_var rfl) (ea_cons ev_non ea_nil)))))) ⟨(none, k, (t, b), l, W), ⟨h1, ok, h3, fun _ e => nomatch e⟩, rfl, rfl⟩) ?_
    let js := (IJ l.length).filter (keepsB k t b l W none)
    refine go_assoc (go_ret (Ev.ex (x := .all (shuf (js.map (rowOf l W)) far)) ⟨trivial, (shuf_perm _ _).trans ((J_perm (k := k) (t := t) (b := b) (l := l) (W := W) (.all [])).map _)⟩ (ev_tup (ea_cons ev_str (ea_cons ((ev_call (ea_cons (ev_call (ea_cons (ev_var rfl) (ea_cons (ev_var rfl) (ea_cons (ev_var rfl) ea_nil))) ⟨(l, W, js), ⟨ok, fun p hp => IJ_mem hp, Nat.le_trans (IJ_len hn (keepsB k t b l W none)) (by decide)⟩, rfl, rfl⟩) (ea_cons (ev_var rfl) ea_nil)) ⟨((js.map (rowOf l W)).map dRow, far), (by show ((js.map (rowOf l W)).map dRow).length ≤ 1000; rw [List.length_map]; exact rl _), rfl, rfl⟩).is (rows_dn l W js far)) ea_nil)))))
  refine go_nextz ?_
  refine go_if (et_test (ev_op (ev_var rfl) ev_str rv_eqS)) (fun hb2 => ?_) (fun hb2 => ?_)
  · refine go_assoc ?_
    refine go_asg (ev_call (ea_cons (ev_var rfl) (ea_cons (ev_var rfl) ea_nil)) ⟨(s, l), h2, rfl, rfl⟩) ?_
    refine go_ex (i := 9) (P := fun ps => OkPs l ps) (D := dLot) rfl fun ps hps => ?_
    let js := (IJ l.length).filter (keepsB k t b l W (some ps))
    refine go_assoc (go_asg (ev_call (ea_cons ev_str (ea_cons (ev_var rfl) (ea_cons (ev_var rfl) (ea_cons (ev_var rfl) (ea_cons (ev_var rfl) (ea_cons (ev_var rfl) ea_nil)))))) ⟨(some ps, k, (t, b), l, W), ⟨h1, ok, h3, fun _ e => by cases e; exact hps⟩, rfl, rfl⟩) ?_)
    refine go_assoc (go_ret (Ev.ex (x := .parts ps (shuf (js.map (rowOf l W)) far)) ⟨hps, (shuf_perm _ _).trans ((J_perm (k := k) (t := t) (b := b) (l := l) (W := W) (.parts ps [])).map _)⟩ (ev_tup (ea_cons ev_str (ea_cons (ev_var rfl) (ea_cons ((ev_call (ea_cons (ev_call (ea_cons (ev_var rfl) (ea_cons (ev_var rfl) (ea_cons (ev_var rfl) ea_nil))) ⟨(l, W, js), ⟨ok, fun p hp => IJ_mem hp, Nat.le_trans (IJ_len hn (keepsB k t b l W (some ps))) (by decide)⟩, rfl, rfl⟩) (ea_cons (ev_var rfl) ea_nil)) ⟨((js.map (rowOf l W)).map dRow, far), (by show ((js.map (rowOf l W)).map dRow).length ≤ 1000; rw [List.length_map]; exact rl _), rfl, rfl⟩).is (rows_dn l W js far)) ea_nil))))))
  refine go_nextz ?_
  refine go_asg (ev_call (ea_cons (ev_var rfl) (ea_cons (ev_var rfl) ea_nil)) ⟨(s, l), h2, rfl, rfl⟩) ?_
  refine go_ex (i := 10) (P := fun o => OkOrd l o) (D := dLS) rfl fun ord ho => ?_
  let es := endsF k t b l W ord (cellAt s 15)
  have eok := endsF_ok (k := k) (t := t) (b := b) (l := l) (W := W) (c := cellAt s 15) ho.s
  refine go_asg (d := dEs es) (ev_call (ea_cons (ev_var rfl) (ea_cons (ev_var rfl) (ea_cons (ev_var rfl) (ea_cons (ev_var rfl) (ea_cons (ev_var rfl) (ea_cons (ev_call (ea_cons (ev_var rfl) (ea_cons ev_int ea_nil)) ⟨(s, 15), trivial, rfl, rfl⟩) ea_nil)))))) ⟨(k, (t, b), l, W, ord, cellAt s 15), ⟨h1, ok, h3, ho.s⟩, rfl, rfl⟩) ?_
  let js := (IJ l.length).filter (endsB k t b l W ord es)
  refine go_asg (ev_call (ea_cons (ev_var rfl) (ea_cons (ev_var rfl) (ea_cons (ev_var rfl) (ea_cons (ev_var rfl) (ea_cons (ev_var rfl) (ea_cons (ev_var rfl) ea_nil)))))) ⟨(k, (t, b), l, W, ord, es), ⟨h1, ok, h3, ho.s, eok.n⟩, rfl, rfl⟩) ?_
  refine go_ret (Ev.ex (x := .ends ord es (shuf (js.map (rowOf l W)) far)) ⟨⟨ho, eok⟩, (shuf_perm _ _).trans ((J_perm (k := k) (t := t) (b := b) (l := l) (W := W) (.ends ord es [])).map _)⟩ (ev_tup (ea_cons (ev_str.is ?_) (ea_cons (ev_var rfl) (ea_cons (ev_var rfl) (ea_cons ((ev_call (ea_cons (ev_call (ea_cons (ev_var rfl) (ea_cons (ev_var rfl) (ea_cons (ev_var rfl) ea_nil))) ⟨(l, W, js), ⟨ok, fun p hp => IJ_mem hp, Nat.le_trans (IJ_len hn (endsB k t b l W ord es)) (by decide)⟩, rfl, rfl⟩) (ea_cons (ev_var rfl) ea_nil)) ⟨((js.map (rowOf l W)).map dRow, far), (by show ((js.map (rowOf l W)).map dRow).length ≤ 1000; rw [List.length_map]; exact rl _), rfl, rfl⟩).is (rows_dn l W js far)) ea_nil))))))
  rfl
end
end Mu
/-! The law itself. -/
namespace Mu
open PySem PySem.Spec PyProof.Rows L2
local macro_rules | `(tactic| walk_at "mu le") => `(tactic| (repeat (first | exact trivial | refine ⟨by first | exact Or.inr rfl | exact Or.inl rfl, ?_⟩)))
section
variable {P : Program} {w : World} {K : PySem.W.Frag} {mg : Str → Option Value} {base : Heap} {kA : Addr} {aT aR aP aS : Addr}
def f_law_wrong := Fs (fun x : List Pr × Pap × Int => x.1.length ≤ 200 ∧ x.2.1.rows.length ≤ 200) (fun x => [dL (x.1.map dPr), x.2.1.d, dI x.2.2]) (fun x => dL ((wrongF x.1 x.2.1 x.2.2).map dWr))
theorem wr_snoc {X : List (List Pr × PapX)} {q : List Pr × PapX} {d : Dn} (h : d = dWr q) : some (oL 3 (X.map dWr ++ [d])) = some (oL 3 ((X ++ [q]).map dWr)) := ol_snoc h
theorem wP_len (prs : List Pr) (p : Pap) (n : Int) : (wP prs p n).length ≤ 4 := by
  unfold wP
  split
  · exact Nat.zero_le _
  · exact Nat.le_refl _
theorem wR_len (prs : List Pr) (p : Pap) (n : Int) : (wR prs p n).length ≤ 3 := by
  unfold wR
  split
  · exact Nat.zero_le _
  · exact Nat.le_refl _
theorem sc_law_wrong : FnScope ["_law_pairs", "_law_paper_here", "_law_number", "_law_got", "_law_at", "_law_i", "_law_j", "_law_share", "_law_rows_here", "_law_c", "_law_word"] ["_law_pairs", "_law_paper_here", "_law_number"] (defScope s_law_wrong) := ⟨rfl, rfl, rfl, by decide +kernel, rfl, by decide +kernel, by decide +kernel⟩
theorem bd_law_wrong : BindOk "_law_wrong" s_law_wrong ["_law_pairs", "_law_paper_here", "_law_number"] := fun _ _ _ _ _ _ us hl => match us, hl with | [_, _, _], _ => rfl
theorem ok_law_wrong (T : Txt K mg kA signsZ kindsL) (F : DefF K mg "_law_wrong" s_law_wrong) : Cal P w K mg base 1 "_law_wrong" (spF f_law_wrong) := by
  refine cal_fs F sc_law_wrong bd_law_wrong (fun z => by first | rfl | (cases z <;> rfl)) (fun f cdv A outer s H E hr => ⟨_, (pss_cons (ps_set (i := 3) sc_law_wrong.nd rfl (Or.inl rfl) (pe_lst pa_nil))
    (pss_cons (ps_if (pt_cmpR (k_neD K rfl hr.units) (pv 0) (pe_lst pa_nil) (nomark _)) (pss_cons (ps_set (i := 4) sc_law_wrong.nd rfl (Or.inl rfl) (pe_op op_mod (pv 2) (pe_callB (k_len K rfl) (by rfl) T.len PySem.boot_len (pa_cons (pv 0) pa_nil))))
    (pss_cons (ps_asg (pe_ix (k_ixL K rfl) (pv 0) (pv 4) (fun _ _ => rfl)) (pg_tup rfl (pgs_cons (pg_name (i := 5) sc_law_wrong.nd rfl (Or.inl rfl)) (pgs_cons (pg_name (i := 6) sc_law_wrong.nd rfl (Or.inl rfl)) (pgs_cons (pg_name (i := 7) sc_law_wrong.nd rfl (Or.inl rfl)) pgs_nil)))))
    (pss_cons (ps_expr (pe_bm PySem.F.plainAttrs_list PySem.F.slot_list_append PySem.F.type_list_append mt_append (pv 3) (pa_cons (pe_tup (pa_cons (pe_op op_cat (pe_slice (k_slL K rfl) (pv 0) po_none (po_some (pv 4))) (pe_slice (k_slL K rfl) (pv 0) (po_some (pe_op op_add (pv 4) pe_int)) po_none)) (pa_cons (pv 1) pa_nil))) pa_nil)))
    (pss_cons (ps_expr (pe_bm PySem.F.plainAttrs_list PySem.F.slot_list_append PySem.F.type_list_append mt_append (pv 3) (pa_cons (pe_tup (pa_cons (pe_op op_cat (pe_op op_cat (pe_slice (k_slL K rfl) (pv 0) po_none (po_some (pv 4))) (pe_lst (pa_cons (pe_tup (pa_cons (pv 5) (pa_cons (pv 6) (pa_cons (pe_tup (pa_cons (pe_ix (k_ixT K rfl) (pv 7) pe_int (fun _ _ => rfl)) (pa_cons (pe_op op_add (pe_ix (k_ixT K rfl) (pv 7) pe_int (fun _ _ => rfl)) pe_int) pa_nil))) pa_nil)))) pa_nil))) (pe_slice (k_slL K rfl) (pv 0) (po_some (pe_op op_add (pv 4) pe_int)) po_none)) (pa_cons (pv 1) pa_nil))) pa_nil)))
    (pss_cons (ps_expr (pe_bm PySem.F.plainAttrs_list PySem.F.slot_list_append PySem.F.type_list_append mt_append (pv 3) (pa_cons (pe_tup (pa_cons (pe_op op_cat (pe_op op_cat (pe_slice (k_slL K rfl) (pv 0) po_none (po_some (pv 4))) (pe_lst (pa_cons (pe_tup (pa_cons (pv 6) (pa_cons (pv 5) (pa_cons (pv 7) pa_nil)))) pa_nil))) (pe_slice (k_slL K rfl) (pv 0) (po_some (pe_op op_add (pv 4) pe_int)) po_none)) (pa_cons (pv 1) pa_nil))) pa_nil)))
    (pss_cons (ps_expr (pe_bm PySem.F.plainAttrs_list PySem.F.slot_list_append PySem.F.type_list_append mt_append (pv 3) (pa_cons (pe_tup (pa_cons (pe_op op_cat (pv 0) (pe_lst (pa_cons (pe_ix (k_ixL K rfl) (pv 0) (pv 4) (fun _ _ => rfl)) pa_nil))) (pa_cons (pv 1) pa_nil))) pa_nil)))
    pss_nil)))))) pss_nil)
    (pss_cons (ps_set (i := 8) sc_law_wrong.nd rfl (Or.inl rfl) (pe_ix (k_ixT K rfl) (pv 1) (pe_un un_neg pe_int) (fun _ _ => rfl)))
    (pss_cons (ps_if (pt_cmpR (k_neD K rfl hr.units) (pv 8) (pe_lst pa_nil) (nomark _)) (pss_cons (ps_set (i := 4) sc_law_wrong.nd rfl (Or.inl rfl) (pe_op op_mod (pe_op op_fdivW (pv 2) pe_int) (pe_callB (k_len K rfl) (by rfl) T.len PySem.boot_len (pa_cons (pv 8) pa_nil))))
    (pss_cons (ps_asg (pe_ix (k_ixL K rfl) (pv 8) (pv 4) (fun _ _ => rfl)) (pg_tup rfl (pgs_cons (pg_name (i := 5) sc_law_wrong.nd rfl (Or.inl rfl)) (pgs_cons (pg_name (i := 6) sc_law_wrong.nd rfl (Or.inl rfl)) (pgs_cons (pg_name (i := 9) sc_law_wrong.nd rfl (Or.inl rfl)) pgs_nil)))))
    (pss_cons (ps_expr (pe_bm PySem.F.plainAttrs_list PySem.F.slot_list_append PySem.F.type_list_append mt_append (pv 3) (pa_cons (pe_tup (pa_cons (pv 0) (pa_cons (pe_op (k_catT K rfl) (pe_slice (k_slT K rfl) (pv 1) po_none (po_some (pe_un un_neg pe_int))) (pe_tup (pa_cons (pe_op op_cat (pe_slice (k_slL K rfl) (pv 8) po_none (po_some (pv 4))) (pe_slice (k_slL K rfl) (pv 8) (po_some (pe_op op_add (pv 4) pe_int)) po_none)) pa_nil))) pa_nil))) pa_nil)))
    (pss_cons (ps_expr (pe_bm PySem.F.plainAttrs_list PySem.F.slot_list_append PySem.F.type_list_append mt_append (pv 3) (pa_cons (pe_tup (pa_cons (pv 0) (pa_cons (pe_op (k_catT K rfl) (pe_slice (k_slT K rfl) (pv 1) po_none (po_some (pe_un un_neg pe_int))) (pe_tup (pa_cons (pe_op op_cat (pe_op op_cat (pe_slice (k_slL K rfl) (pv 8) po_none (po_some (pv 4))) (pe_lst (pa_cons (pe_tup (pa_cons (pv 5) (pa_cons (pv 6) (pa_cons (pe_op op_add (pv 9) pe_int) pa_nil)))) pa_nil))) (pe_slice (k_slL K rfl) (pv 8) (po_some (pe_op op_add (pv 4) pe_int)) po_none)) pa_nil))) pa_nil))) pa_nil)))
    (pss_cons (ps_expr (pe_bm PySem.F.plainAttrs_list PySem.F.slot_list_append PySem.F.type_list_append mt_append (pv 3) (pa_cons (pe_tup (pa_cons (pv 0) (pa_cons (pe_op (k_catT K rfl) (pe_slice (k_slT K rfl) (pv 1) po_none (po_some (pe_un un_neg pe_int))) (pe_tup (pa_cons (pe_op op_cat (pv 8) (pe_lst (pa_cons (pe_ix (k_ixL K rfl) (pv 8) (pv 4) (fun _ _ => rfl)) pa_nil))) pa_nil))) pa_nil))) pa_nil)))
    pss_nil))))) pss_nil)
    (pss_cons (ps_for PassesOwn.never rfl (pi_list (pe_lst (pa_cons pe_str (pa_cons pe_str (pa_cons pe_str (pa_cons pe_str (pa_cons pe_str pa_nil))))))) (pg_name (i := 10) sc_law_wrong.nd rfl (Or.inl rfl)) (pss_cons (ps_expr (pe_bm PySem.F.plainAttrs_list PySem.F.slot_list_append PySem.F.type_list_append mt_append (pv 3) (pa_cons (pe_tup (pa_cons (pv 0) (pa_cons (pe_op (k_catT K rfl) (pe_tup (pa_cons (pv 10) pa_nil)) (pe_slice (k_slT K rfl) (pv 1) (po_some pe_int) po_none)) pa_nil))) pa_nil)))
    pss_nil))
    (pss_cons (ps_expr (pe_bm PySem.F.plainAttrs_list PySem.F.slot_list_append PySem.F.type_list_append mt_append (pv 3) (pa_cons (pe_tup (pa_cons (pv 0) (pa_cons (pe_slice (k_slT K rfl) (pv 1) (po_some pe_int) po_none) pa_nil))) pa_nil)))
    (pss_cons (ps_ret (pv 3))
    pss_nil))))))), ?_⟩)
  rintro ⟨prs, p, n⟩ ⟨h1, h2⟩
  dsimp only at h1 h2 ⊢
  have pl := pap_len p
  have cl := fun (xs : List Dn) lo hi => cut_len xs lo hi
  refine go_asgN (en_lst ea_nil) ?_
  refine go_ifJ [some (dL (prs.map dPr)), some p.d, some (dI n), none, none, none, none, none, none, none, none] (some (oL 3 ((wP prs p n).map dWr))) (et_test (ev_op (ev_var rfl) ((en_lst ea_nil)).ev (rv_neD (dd_prs prs) dd_nil (shp_prs prs) shp_nil (eqv_lnil prs)))) (fun hb => ?_) (fun hb => ?_) ?_
  · have hne : prs ≠ [] := fun z => by rw [z] at hb; cases hb
    have hl := List.length_pos_iff.mpr hne
    have m1 := Int.emod_nonneg n (by omega : (prs.length : Int) ≠ 0)
    have m2 := Int.emod_lt_of_pos n (by omega : (0 : Int) < prs.length)
    have wp : wP prs p n = _ := if_neg hne
    rw [wp]
    have hi : (n % prs.length).toNat < prs.length := by omega
    refine go_asg (d := dI (((n % prs.length).toNat : Nat) : Int)) ((ev_op (ev_var rfl) ((ev_cb (ea_cons (ev_var rfl) ea_nil) rc_len).is (by rw [List.length_map])) (rv_mod (by omega))).is (congrArg dI (by omega))) ?_
    generalize (n % (prs.length : Int)).toNat = i at hi
    have c1 : ∀ lo hi, (cutD (prs.map dPr) lo hi).length ≤ 200 := fun lo hi => Nat.le_trans (cl _ lo hi) (by rw [List.length_map]; exact h1)
    refine go_asgT (ev_op (ev_var rfl) (ev_var rfl) (rv_ixL (atI_gt dPr hi))) tg_tup3 ?_
    refine go_app (ev_tup (ea_cons ((ev_opN ((en_slL (ev_var rfl) eo_none (eo_some (ev_var rfl)))).ev ((en_slL (ev_var rfl) (eo_some (ev_op (ev_var rfl) ev_int rv_add)) eo_none)).ev (rn_cat (Nat.le_trans (Nat.add_le_add (c1 _ _) (c1 _ _)) (by decide)))).ev.is (congrArg dL (cutAt_map0 dPr prs i))) (ea_cons (ev_var rfl) ea_nil))) (by decide) ?_
    refine go_app (ev_tup (ea_cons ((ev_opN ((ev_opN ((en_slL (ev_var rfl) eo_none (eo_some (ev_var rfl)))).ev ((en_lst (ea_cons (ev_tup (ea_cons (ev_var rfl) (ea_cons (ev_var rfl) (ea_cons (ev_tup (ea_cons (ev_op (ev_var rfl) ev_int (rv_ixT rfl)) (ea_cons (ev_op (ev_op (ev_var rfl) ev_int (rv_ixT rfl)) ev_int rv_add) ea_nil))) ea_nil)))) ea_nil))).ev (rn_cat (Nat.le_trans (Nat.add_le_add_right (c1 _ _) 1) (by decide))))).ev ((en_slL (ev_var rfl) (eo_some (ev_op (ev_var rfl) ev_int rv_add)) eo_none)).ev (rn_cat (by rw [List.length_append]; exact Nat.le_trans (Nat.add_le_add (Nat.add_le_add_right (c1 _ _) 1) (c1 _ _)) (by decide)))).ev.is (congrArg dL (cutAt_map dPr prs i [((gt prs i).1, (gt prs i).2.1, ((gt prs i).2.2.1, (gt prs i).2.2.2 + 1))]))) (ea_cons (ev_var rfl) ea_nil))) (by rw [List.length_append]; exact Nat.le_of_ble_eq_true rfl) ?_
    refine go_app (ev_tup (ea_cons ((ev_opN ((ev_opN ((en_slL (ev_var rfl) eo_none (eo_some (ev_var rfl)))).ev ((en_lst (ea_cons (ev_tup (ea_cons (ev_var rfl) (ea_cons (ev_var rfl) (ea_cons (ev_var rfl) ea_nil)))) ea_nil))).ev (rn_cat (Nat.le_trans (Nat.add_le_add_right (c1 _ _) 1) (by decide))))).ev ((en_slL (ev_var rfl) (eo_some (ev_op (ev_var rfl) ev_int rv_add)) eo_none)).ev (rn_cat (by rw [List.length_append]; exact Nat.le_trans (Nat.add_le_add (Nat.add_le_add_right (c1 _ _) 1) (c1 _ _)) (by decide)))).ev.is (congrArg dL (cutAt_map dPr prs i [((gt prs i).2.1, (gt prs i).1, (gt prs i).2.2)]))) (ea_cons (ev_var rfl) ea_nil))) (by rw [List.length_append]; exact Nat.le_of_ble_eq_true rfl) ?_
    refine go_app (ev_tup (ea_cons ((ev_opN (ev_var rfl) ((en_lst (ea_cons (ev_op (ev_var rfl) (ev_var rfl) (rv_ixL (atI_gt dPr hi))) ea_nil))).ev (rn_cat (by rw [List.length_map]; exact Nat.le_trans (Nat.add_le_add_right h1 1) (by decide)))).ev.is (show _ = dL ((prs ++ [gt prs i]).map dPr) by rw [List.map_append]; rfl)) (ea_cons (ev_var rfl) ea_nil))) (by rw [List.length_append]; exact Nat.le_of_ble_eq_true rfl) ?_
    exact go_nextO (by walk_at "mu le") rfl
  · have e : prs = [] := by
      rw [Bool.not_eq_false'] at hb
      exact List.isEmpty_iff.mp hb
    have wp : wP prs p n = [] := if_pos e
    rw [wp]
    exact go_nextO (by walk_at "mu le") rfl
  have l1 := wP_len prs p n
  generalize hX : wP prs p n = X at l1
  refine go_asg (ev_op (ev_var rfl) (ev_neg ev_int) (rv_ixT (pap_rows p))) ?_
  refine go_ifJ [some (dL (prs.map dPr)), some p.d, some (dI n), none, none, none, none, none, none, none, none] (some (oL 3 ((X ++ wR prs p n).map dWr))) (et_test (ev_op (ev_var rfl) ((en_lst ea_nil)).ev (rv_neD (dd_rows p.rows) dd_nil (shp_rows p.rows) shp_nil (eqv_lnil p.rows)))) (fun hb => ?_) (fun hb => ?_) ?_
  · have hne : p.rows ≠ [] := fun z => by rw [z] at hb; cases hb
    have hl := List.length_pos_iff.mpr hne
    have m1 := Int.emod_nonneg (n / 64) (by omega : (p.rows.length : Int) ≠ 0)
    have m2 := Int.emod_lt_of_pos (n / 64) (by omega : (0 : Int) < p.rows.length)
    have wr : wR prs p n = _ := if_neg hne
    rw [wr]
    have hi : (n / 64 % p.rows.length).toNat < p.rows.length := by omega
    refine go_asg (d := dI (((n / 64 % p.rows.length).toNat : Nat) : Int)) ((ev_op (ev_op (ev_var rfl) ev_int (rv_fdiv (Bt.cd (n := 2) ⟨by decide, by decide⟩ (by decide)))) ((ev_cb (ea_cons (ev_var rfl) ea_nil) rc_len).is (by rw [List.length_map])) (rv_mod (by omega))).is (congrArg dI (by omega))) ?_
    generalize (n / 64 % (p.rows.length : Int)).toNat = i at hi
    have c1 : ∀ lo hi, (cutD (p.rows.map dRow) lo hi).length ≤ 200 := fun lo hi => Nat.le_trans (cl _ lo hi) (by rw [List.length_map]; exact h2)
    have c2 : ∀ lo hi, (cutD (dS p.way :: p.tl) lo hi).length ≤ 4 := fun lo hi => Nat.le_trans (cl _ lo hi) pl
    refine go_asgT (ev_op (ev_var rfl) (ev_var rfl) (rv_ixL (atI_gt dRow hi))) tg_tup3 ?_
    refine go_app (ev_tup (ea_cons (ev_var rfl) (ea_cons ((ev_catT (ev_slT (ev_var rfl) eo_none (eo_some (ev_neg ev_int)) (pap_cut_hw p)) (ev_tup (ea_cons ((ev_opN ((en_slL (ev_var rfl) eo_none (eo_some (ev_var rfl)))).ev ((en_slL (ev_var rfl) (eo_some (ev_op (ev_var rfl) ev_int rv_add)) eo_none)).ev (rn_cat (Nat.le_trans (Nat.add_le_add (c1 _ _) (c1 _ _)) (by decide)))).ev.is (congrArg dL (cutAt_map0 dRow p.rows i))) ea_nil)) (pap_cut_ne p) (Nat.le_trans (Nat.add_le_add_right (c2 _ _) 1) (by decide))).is (congrArg dT (pap_cut p _))) ea_nil))) (by rw [List.length_map]; omega) ?_
    refine go_app (ev_tup (ea_cons (ev_var rfl) (ea_cons ((ev_catT (ev_slT (ev_var rfl) eo_none (eo_some (ev_neg ev_int)) (pap_cut_hw p)) (ev_tup (ea_cons ((ev_opN ((ev_opN ((en_slL (ev_var rfl) eo_none (eo_some (ev_var rfl)))).ev ((en_lst (ea_cons (ev_tup (ea_cons (ev_var rfl) (ea_cons (ev_var rfl) (ea_cons (ev_op (ev_var rfl) ev_int rv_add) ea_nil)))) ea_nil))).ev (rn_cat (Nat.le_trans (Nat.add_le_add_right (c1 _ _) 1) (by decide))))).ev ((en_slL (ev_var rfl) (eo_some (ev_op (ev_var rfl) ev_int rv_add)) eo_none)).ev (rn_cat (by rw [List.length_append]; exact Nat.le_trans (Nat.add_le_add (Nat.add_le_add_right (c1 _ _) 1) (c1 _ _)) (by decide)))).ev.is (congrArg dL (cutAt_map dRow p.rows i [((gt p.rows i).1, (gt p.rows i).2.1, (gt p.rows i).2.2 + 1)]))) ea_nil)) (pap_cut_ne p) (Nat.le_trans (Nat.add_le_add_right (c2 _ _) 1) (by decide))).is (congrArg dT (pap_cut p _))) ea_nil))) (by rw [List.length_append, List.length_map]; show X.length + 1 < _; omega) ?_
    refine go_app (ev_tup (ea_cons (ev_var rfl) (ea_cons ((ev_catT (ev_slT (ev_var rfl) eo_none (eo_some (ev_neg ev_int)) (pap_cut_hw p)) (ev_tup (ea_cons ((ev_opN (ev_var rfl) ((en_lst (ea_cons (ev_op (ev_var rfl) (ev_var rfl) (rv_ixL (atI_gt dRow hi))) ea_nil))).ev (rn_cat (by rw [List.length_map]; exact Nat.le_trans (Nat.add_le_add_right h2 1) (by decide)))).ev.is (show _ = dL ((p.rows ++ [gt p.rows i]).map dRow) by rw [List.map_append]; rfl)) ea_nil)) (pap_cut_ne p) (Nat.le_trans (Nat.add_le_add_right (c2 _ _) 1) (by decide))).is (congrArg dT (pap_cut p _))) ea_nil))) (by rw [List.length_append, List.length_append, List.length_map]; show X.length + 1 + 1 < _; omega) ?_
    refine go_nextO (by walk_at "mu le") ?_
    rw [List.map_append, List.append_assoc, List.append_assoc]
    rfl
  · have e : p.rows = [] := by
      rw [Bool.not_eq_false'] at hb
      exact List.isEmpty_iff.mp hb
    have wr : wR prs p n = [] := if_pos e
    rw [wr]
    refine go_nextO (by walk_at "mu le") ?_
    rw [List.append_nil]
  have l2 := wR_len prs p n
  have l3 : (X ++ wR prs p n).length ≤ 7 := by rw [List.length_append]; omega
  generalize hY : X ++ wR prs p n = Y at l3
  refine go_for wrongW dS _ _ (fun pre => [some (dL (prs.map dPr)), some p.d, some (dI n), none, none, none, none, none, none, none, none]) (fun pre => some (oL 3 ((Y ++ pre.map fun w => (prs, PapX.bad w p)).map dWr))) (wi_list ((en_lst (ea_cons ev_str (ea_cons ev_str (ea_cons ev_str (ea_cons ev_str (ea_cons ev_str ea_nil))))))).ev) (fun _ => tg_name) (by walk_at "mu le") (by rw [List.map_nil, List.append_nil]) (fun pre x post e => ?_) ?_ ok_k
  · have e1 := (pre_len e).1
    have c2 : ∀ lo hi, (cutD (dS p.way :: p.tl) lo hi).length ≤ 4 := fun lo hi => Nat.le_trans (cl _ lo hi) pl
    refine go_app (ev_tup (ea_cons (ev_var rfl) (ea_cons ((ev_catT (ev_tup (ea_cons (ev_var rfl) ea_nil)) (ev_slT (ev_var rfl) (eo_some ev_int) eo_none (pap_tl_hw p)) (List.cons_ne_nil _ _) (by show 1 + _ ≤ _; have := c2 (some 1) none; omega)).is (show _ = dT (dS x :: p.tl) by rw [pap_tl]; rfl)) ea_nil))) (by
      rw [List.length_map, List.length_append, List.length_map]
      have : wrongW.length = 5 := rfl
      omega) ?_
    refine go_nextO (by walk_at "mu le") ?_
    rw [List.map_append (l₁ := pre), ← List.append_assoc]
    exact ol_snoc rfl
  · refine go_app (ev_tup (ea_cons (ev_var rfl) (ea_cons ((ev_slT (ev_var rfl) (eo_some ev_int) eo_none (pap_tl_hw p)).is (congrArg dT (pap_tl p))) ea_nil))) (by
      rw [List.length_map, List.length_append, List.length_map]
      have : wrongW.length = 5 := rfl
      omega) ?_
    refine go_tell ?_
    refine go_ret ((ev_var rfl).is ?_)
    show dL _ = dL ((wrongF prs p n).map dWr)
    unfold wrongF
    rw [hX, hY, List.map_append (l₁ := Y ++ _)]
    rfl
/-! copies -/
def CopyD : Nat → Dn → Prop
  | 0, d => (∃ i, d = dI i) ∨ ∃ x, d = dS x
  | n + 1, d => CopyD n d ∨ (∃ ds, d = dL ds ∧ ds.length ≤ 1000 ∧ ∀ e ∈ ds, CopyD n e) ∨ ∃ ds, d = dT ds ∧ ds.length ≤ 1000 ∧ ∀ e ∈ ds, CopyD n e
/-- itself, or a list or a tuple of such -/
theorem copyD_cases : ∀ {n : Nat} {d : Dn}, CopyD n d → (∃ i, d = dI i) ∨ (∃ x, d = dS x) ∨ (∃ m ds, n = m + 1 ∧ d = dL ds ∧ ds.length ≤ 1000 ∧ ∀ e ∈ ds, CopyD m e) ∨ ∃ m ds, n = m + 1 ∧ d = dT ds ∧ ds.length ≤ 1000 ∧ ∀ e ∈ ds, CopyD m e
  | 0, d, h => h.elim (fun h => .inl h) fun h => .inr (.inl h)
  | n + 1, d, h => by
    rcases h with h | ⟨ds, h⟩ | ⟨ds, h⟩
    · rcases copyD_cases h with h | h | ⟨m, ds, e, h1, h2, h3⟩ | ⟨m, ds, e, h1, h2, h3⟩
      · exact .inl h
      · exact .inr (.inl h)
      · exact .inr (.inr (.inl ⟨n, ds, rfl, h1, h2, fun x hx => by rw [e]; exact .inl (h3 x hx)⟩))
      · exact .inr (.inr (.inr ⟨n, ds, rfl, h1, h2, fun x hx => by rw [e]; exact .inl (h3 x hx)⟩))
    · exact .inr (.inr (.inl ⟨n, ds, rfl, h⟩))
    · exact .inr (.inr (.inr ⟨n, ds, rfl, h⟩))
def copyΦ : Nat → List Dn → Dn → Prop
  | 0 => fun _ _ => False
  | n + 1 => Fs (fun d : Dn => CopyD n d) (fun d => [d]) fun d => d
abbrev f_law_copy : List Dn → Dn → Prop := copyΦ 5
theorem sc_law_copy : FnScope ["_law_thing", "_law_part"] ["_law_thing"] (defScope s_law_copy) := ⟨rfl, rfl, rfl, by decide +kernel, rfl, by decide +kernel, by decide +kernel⟩
theorem bd_law_copy : BindOk "_law_copy" s_law_copy ["_law_thing"] := fun _ _ _ _ _ _ us hl => match us, hl with | [_], _ => rfl
theorem copy_step {n : Nat} (T : Txt K mg kA signsZ kindsL) (F : DefF K mg "_law_copy" s_law_copy) (c_law_copy : Cal P w K mg base n "_law_copy" (spF (copyΦ n))) : Cal P w K mg base (n + 1) "_law_copy" (spF (copyΦ (n + 1))) := by
  refine cal_fs F sc_law_copy bd_law_copy (fun _ => rfl) (fun f cdv A outer s H E hr => ⟨_, (pss_cons (ps_if (pt_val (pe_callB (k_isi K rfl) (by rfl) T.isinstance (by decide +kernel) (pa_cons (pv 0) (pa_cons (pe_bltn (v := .ty "list") (by rfl) T.list (by decide +kernel) rfl) pa_nil)))) (pss_cons (ps_ret (pe_lc (own := [("_law_part", 1)]) (g := (gName 1)) (tt := tYes) rfl sc_law_copy.nd (pi_list (pv 0)) (blkOk_by (N := ["_law_thing", "_law_part"]) (sc := defScope s_law_copy) (by decide +kernel)) (fun _ _ _ _ _ => (pg_name (i := 1) sc_law_copy.nd rfl (Or.inl rfl))) (fun _ _ _ _ _ => pts_nil) (fun _ _ _ _ _ => (pe_cal c_law_copy hr (Nat.le_refl n) rfl (pa_cons (pv 1) pa_nil)))))
    pss_nil) pss_nil)
    (pss_cons (ps_if (pt_val (pe_callB (k_isi K rfl) (by rfl) T.isinstance (by decide +kernel) (pa_cons (pv 0) (pa_cons (pe_bltn (v := .ty "tuple") (by rfl) T.tuple (by decide +kernel) rfl) pa_nil)))) (pss_cons (ps_ret (pe_callTy (k_tuple K rfl) (by rfl) T.tuple (by decide +kernel) (pa_cons (pe_lc (own := [("_law_part", 1)]) (g := (gName 1)) (tt := tYes) rfl sc_law_copy.nd (pi_tup (pv 0)) (blkOk_by (N := ["_law_thing", "_law_part"]) (sc := defScope s_law_copy) (by decide +kernel)) (fun _ _ _ _ _ => (pg_name (i := 1) sc_law_copy.nd rfl (Or.inl rfl))) (fun _ _ _ _ _ => pts_nil) (fun _ _ _ _ _ => (pe_cal c_law_copy hr (Nat.le_refl n) rfl (pa_cons (pv 1) pa_nil)))) pa_nil)))
    pss_nil) pss_nil)
    (pss_cons (ps_ret (pv 0))
    pss_nil))), ?_⟩)
  intro d h
  dsimp only at h ⊢
  rcases copyD_cases h with ⟨i, rfl⟩ | ⟨x, rfl⟩ | ⟨m, ds, rfl, rfl, hl, hd⟩ | ⟨m, ds, rfl, rfl, hl, hd⟩
  · refine go_if (et_B (ev_cb (ea_cons (ev_var rfl) (ea_cons ev_val ea_nil)) (rc_isi td_int (b := false) (by rfl)))) (fun hb => ?_) (fun hb => ?_)
    · cases hb
    refine go_nextz ?_
    refine go_if (et_B (ev_cb (ea_cons (ev_var rfl) (ea_cons ev_val ea_nil)) (rc_isi td_int (b := false) (by rfl)))) (fun hb => ?_) (fun hb => ?_)
    · cases hb
    exact go_nextz (go_ret (ev_var rfl))
  · refine go_if (et_B (ev_cb (ea_cons (ev_var rfl) (ea_cons ev_val ea_nil)) (rc_isi td_str (b := false) (by rfl)))) (fun hb => ?_) (fun hb => ?_)
    · cases hb
    refine go_nextz ?_
    refine go_if (et_B (ev_cb (ea_cons (ev_var rfl) (ea_cons ev_val ea_nil)) (rc_isi td_str (b := false) (by rfl)))) (fun hb => ?_) (fun hb => ?_)
    · cases hb
    exact go_nextz (go_ret (ev_var rfl))
  · refine go_if (et_B (ev_cb (ea_cons (ev_var rfl) (ea_cons ev_val ea_nil)) (rc_isi td_lst (b := true) (by rfl)))) (fun hb => ?_) (fun hb => ?_)
    · refine go_assoc (go_ret ((en_lc0 ds id _ _ (fun d => d) (wi_is (wi_list (ev_var rfl)) (List.map_id _).symm) (fun _ => tg_name) (fun x hx => (ev_call (ea_cons (ev_var rfl) ea_nil) ⟨x, hd x hx, rfl, rfl⟩)) (by omega) (by decide)).ev.is (congrArg dL (List.map_id _))))
    · cases hb
  · refine go_if (et_B (ev_cb (ea_cons (ev_var rfl) (ea_cons ev_val ea_nil)) (rc_isi td_tup (b := false) (by rfl)))) (fun hb => ?_) (fun hb => ?_)
    · cases hb
    refine go_nextz ?_
    refine go_if (et_B (ev_cb (ea_cons (ev_var rfl) (ea_cons ev_val ea_nil)) (rc_isi td_tup (b := true) (by rfl)))) (fun hb => ?_) (fun hb => ?_)
    · refine go_assoc (go_ret ((ev_cb (ea_cons ((en_lc0 ds id _ _ (fun d => d) (wi_is (wi_tup (ev_var rfl)) (List.map_id _).symm) (fun _ => tg_name) (fun x hx => (ev_call (ea_cons (ev_var rfl) ea_nil) ⟨x, hd x hx, rfl, rfl⟩)) (by omega) (by decide))).ev ea_nil) rc_tuple).is (congrArg dT (List.map_id _))))
    · cases hb
theorem ok_law_copy (T : Txt K mg kA signsZ kindsL) (F : DefF K mg "_law_copy" s_law_copy) : Cal P w K mg base 6 "_law_copy" (spF f_law_copy) := by
  have h : ∀ n, Cal P w K mg base n "_law_copy" (spF (copyΦ n)) := by
    intro n
    induction n with
    | zero => exact cal_zero F bd_law_copy
    | succ n ih => exact copy_step T F ih
  exact (h 5).mono (by decide)
theorem copy_flat {α : Type} {δ : α → Dn} {n : Nat} {xs : List α} (h : ∀ x, CopyD n (δ x)) (hl : xs.length ≤ 1000) : CopyD (n + 1) (dL (xs.map δ)) := .inr (.inl ⟨_, rfl, by rw [List.length_map]; exact hl, fun e he => by
  obtain ⟨x, _, rfl⟩ := List.mem_map.mp he
  exact h x⟩)
theorem CopyD.up {n : Nat} {d : Dn} (h : CopyD n d) : CopyD (n + 1) d := .inl h
theorem copy_row (r : Rw) : CopyD 1 (dRow r) := .inr (.inr ⟨_, rfl, by show (3 : Nat) ≤ 1000; decide, fun e he => by
  rcases List.mem_cons.mp he with rfl | he
  · exact .inl ⟨_, rfl⟩
  rcases List.mem_cons.mp he with rfl | he
  · exact .inl ⟨_, rfl⟩
  rcases List.mem_cons.mp he with rfl | he
  · exact .inl ⟨_, rfl⟩
  · cases he⟩)
/-! cut -/
def mostC : Int := (10 ^ 60) ^ 60
def cutC (c : Int) : Int := gt [c, mostC + c % mostC] (if decide (mostC ≤ c) then (1 : Int) else 0).toNat
/-- a list of whole numbers, tracked or written -/
def dQ (K : PySem.W.Frag) (ns : List Int) : Dn := ⟨fun v N => ∃ a, v = .ref a ∧ SqL K N a (ns.map V.int), fun v N N' s ⟨a, e, h⟩ => ⟨a, e, by
  rcases h with h | h
  · left
    rcases h with h | ⟨od, h⟩
    · exact .inl (s a _ h)
    · exact .inr ⟨od, s a _ h⟩
  · exact .inr h⟩⟩
theorem sqL_same {K : PySem.W.Frag} {N N' : Hp} {a : Addr} {xs : List V} (s : Same N N') (h : SqL K N a xs) : SqL K N' a xs := by
  rcases h with h | h
  · left
    rcases h with h | ⟨od, h⟩
    · exact .inl (s a _ h)
    · exact .inr ⟨od, s a _ h⟩
  · exact .inr h
theorem wi_q {ρ : Ro} {K : PySem.W.Frag} {te : TE} {ns : List Int} (h : Ev te ρ (dQ K ns)) : Wi (iList K te) ρ (ns.map dI) := fun σ N H e s R q => h σ N H e s _ fun v N' H' x p => by
  obtain ⟨a, rfl, ha⟩ := p
  refine ⟨a, rfl, ⟨_, sqL_same x.s ha⟩, q _ N' H' _ _ x (by rw [List.length_map, ← List.length_map (f := V.int)]; exact walk_list) (fun H2 s2 => sqL_same s2 ha) fun i d hd N2 H2 y H3 s2 s3 hy => ?_⟩
  obtain ⟨rfl, hy⟩ := hy
  rw [List.getElem?_map] at hy hd
  cases hn : ns[i]? with
  | none => rw [hn] at hd; cases hd
  | some n =>
    rw [hn] at hd hy
    cases hd
    cases hy
    exact ⟨N2, .refl s3, rfl⟩
def f_law_cut (K : PySem.W.Frag) := Fs (fun s : List Int => s.length ≤ 1000) (fun s => [dQ K s]) (fun s => dIs (s.map cutC))
theorem sc_law_cut : FnScope ["_law_script", "_law_most", "_law_cell"] ["_law_script"] (defScope s_law_cut) := ⟨rfl, rfl, rfl, by decide +kernel, rfl, by decide +kernel, by decide +kernel⟩
theorem bd_law_cut : BindOk "_law_cut" s_law_cut ["_law_script"] := fun _ _ _ _ _ _ us hl => match us, hl with | [_], _ => rfl
theorem ok_law_cut (T : Txt K mg kA signsZ kindsL) (F : DefF K mg "_law_cut" s_law_cut) : Cal P w K mg base 1 "_law_cut" (spF (f_law_cut K)) := by
  refine cal_fs F sc_law_cut bd_law_cut (fun z => by first | rfl | (cases z <;> rfl)) (fun f cdv A outer s H E hr => ⟨_, (pss_cons (ps_set (i := 1) sc_law_cut.nd rfl (Or.inr rfl) (pe_op op_powW (pe_op op_powW pe_int pe_int) pe_int))
    (pss_cons (ps_ret (pe_lc (own := [("_law_cell", 2)]) (g := (gName 2)) (tt := tYes) rfl sc_law_cut.nd (pi_list (pv 0)) (blkOk_by (N := ["_law_script", "_law_most", "_law_cell"]) (sc := defScope s_law_cut) (by decide +kernel)) (fun _ _ _ _ _ => (pg_name (i := 2) sc_law_cut.nd rfl (Or.inl rfl))) (fun _ _ _ _ _ => pts_nil) (fun _ _ _ _ _ => (pe_ix (k_ixL K rfl) (pe_lst (pa_cons (pv 2) (pa_cons (pe_op op_add (pv 1) (pe_op op_mod (pv 2) (pv 1))) pa_nil))) (pe_callTy call_int1 (by rfl) T.int (by decide +kernel) (pa_cons (pe_cmpR op_ge (pv 2) (pv 1) (nomark _)) pa_nil)) (fun _ _ => rfl)))))
    pss_nil)), ?_⟩)
  rintro s h
  have h : s.length ≤ 1000 := h
  refine go_asg (d := dI mostC) (ev_op (ev_op ev_int ev_int (rv_pow (by unfold CPowW; decide +kernel))) ev_int (rv_pow (by unfold CPowW; decide +kernel))) ?_
  exact go_ret (((en_lc0 _ _ _ _ (fun c => dI (cutC c)) (wi_q (ev_var rfl)) (fun _ => tg_name) (fun c hc => (ev_op ((en_lst (ea_cons (ev_var rfl) (ea_cons (ev_op (ev_var rfl) (ev_op (ev_var rfl) (ev_var rfl) (rv_mod (by unfold mostC; decide +kernel))) rv_add) ea_nil)))).ev (ev_cb (ea_cons (ev_op (ev_var rfl) (ev_var rfl) rv_ge) ea_nil) rc_intB) (rv_ixL (atI_int (xs := [c, mostC + c % mostC]) dI (by split <;> decide) (by show _ < ((2 : Nat) : Int); split <;> decide))))) (by omega) (by decide))).ev.is (congrArg dL (List.map_map (g := dI) (f := cutC)).symm))
/-! the law -/
theorem dd_pall : ∀ {ds : List Dn} {xs : List PyData}, Paired (fun d x => DD d x) ds xs → ∀ (K : PySem.W.Frag) (vs : List V) (N H : Hp), Same N H → Rep N ds vs → DpAll K H vs xs
  | _, _, .nil, K, _, N, H, s, .nil => .nil
  | _, _, .cons h t, K, _, N, H, s, .cons r1 r2 => .cons (h K _ N H s r1) (dd_pall t K _ N H s r2)
theorem dd_tupA {ds : List Dn} {xs : List PyData} (h : Paired (fun d x => DD d x) ds xs) : DD (dT ds) (.tuple xs) := fun K v N H s ⟨a, vs, e, ha, r⟩ => by
  subst e
  exact .tup (SqT.of (s a _ ha)) (dd_pall h K vs N H s r)
theorem dd_str' (x : Str) : DD (dS x) (.str x) := dd_str
theorem way_ok : ∀ x ∈ wayL, (x.cps.all (· < 0x110000)) = true := by decide +kernel
theorem shp_way {x : Str} (h : x ∈ wayL) : Shp 0 (.str x) := ⟨by simp only [PyData.canLay0, PyData.strOk]; exact way_ok x h, by simp only [PyData.depth]; omega⟩
def Pap.data (p : Pap) : PyData := match p with
  | .all r => .tuple [.str "all", .list (r.map pRow)]
  | .ends o es r => .tuple [.str "beginnings", pS o, .list (es.map fun e : Nat => .int (e : Int)), .list (r.map pRow)]
  | .parts ps r => .tuple [.str "parts", .list (ps.map pS), .list (r.map pRow)]
theorem pap_dd (p : Pap) : DD p.d p.data := by
  cases p with
  | all r => exact dd_tupA (.cons dd_str (.cons (dd_rows r) .nil))
  | ends o es r => exact dd_tupA (.cons dd_str (.cons (dd_ls o) (.cons (dd_lst fun _ _ => dd_int) (.cons (dd_rows r) .nil))))
  | parts ps r => exact dd_tupA (.cons dd_str (.cons (dd_lst (δ := dLS) (f := pS) fun _ _ => dd_ls _) (.cons (dd_rows r) .nil)))
theorem pap_shp {k : Kd} {t b : Int} {l : List (List Str)} {W : Wt} {p : Pap} (h : OkPap k t b l W p) : Shp 4 p.data := by
  have eints : ∀ es : List Nat, Shp 1 (.list (es.map fun e : Nat => PyData.int (e : Int))) := fun es => shp_lst fun d hd => by
    obtain ⟨x, _, rfl⟩ := List.mem_map.mp hd
    exact shp_int
  cases p with
  | all r =>
    refine (shp_tup (n := 3) fun d hd => ?_)
    rcases List.mem_cons.mp hd with rfl | hd
    · exact (shp_way (by simp)).up (by decide)
    rcases List.mem_cons.mp hd with rfl | hd
    · exact (shp_rows r).up (by decide)
    · cases hd
  | ends o es r =>
    have ho : OkOrd l o := h.1
    refine (shp_tup (n := 3) fun d hd => ?_)
    rcases List.mem_cons.mp hd with rfl | hd
    · exact (shp_way (by simp)).up (by decide)
    rcases List.mem_cons.mp hd with rfl | hd
    · exact (shp_ls ho.s.w).up (by decide)
    rcases List.mem_cons.mp hd with rfl | hd
    · exact (eints es).up (by decide)
    rcases List.mem_cons.mp hd with rfl | hd
    · exact (shp_rows r).up (by decide)
    · cases hd
  | parts ps r =>
    have hp : OkPs l ps := h
    refine (shp_tup (n := 3) fun d hd => ?_)
    rcases List.mem_cons.mp hd with rfl | hd
    · exact (shp_way (by simp)).up (by decide)
    rcases List.mem_cons.mp hd with rfl | hd
    · exact (shp_lot fun s hs => (hp.part hs).w).up (by decide)
    rcases List.mem_cons.mp hd with rfl | hd
    · exact (shp_rows r).up (by decide)
    · cases hd
theorem pap_copy {k : Kd} {t b : Int} {l : List (List Str)} {W : Wt} {p : Pap} (h : OkPap k t b l W p) (hl : l.length ≤ 13) (hr : p.rows.length ≤ 1000) : CopyD 4 p.d := by
  have str : ∀ {n : Nat} (x : Str), CopyD n (dS x) := fun {n} x => by
    induction n with
    | zero => exact .inr ⟨x, rfl⟩
    | succ n ih => exact .inl ih
  refine .inr (.inr ⟨_, rfl, Nat.le_trans (pap_len p) (by decide), fun e he => ?_⟩)
  rcases List.mem_cons.mp he with rfl | he
  · exact str _
  · cases p with
    | all r =>
      rcases List.mem_cons.mp he with rfl | he
      · exact (copy_flat copy_row hr).up
      · cases he
    | ends o es r =>
      have ho : OkOrd l o := h.1
      have hes : es.length = l.length := h.2.n
      rcases List.mem_cons.mp he with rfl | he
      · exact (copy_flat (n := 0) (fun x => str x) (by have := ho.s.l; omega)).up.up
      rcases List.mem_cons.mp he with rfl | he
      · exact (copy_flat (n := 0) (fun x => .inl ⟨_, rfl⟩) (by omega)).up.up
      rcases List.mem_cons.mp he with rfl | he
      · exact (copy_flat copy_row hr).up
      · cases he
    | parts ps r =>
      have hp : OkPs l ps := h
      rcases List.mem_cons.mp he with rfl | he
      · refine (CopyD.up (n := 2) (.inr (.inl ⟨_, rfl, by rw [List.length_map]; have := hp.n; omega, fun e he => ?_⟩)))
        obtain ⟨s, hs, rfl⟩ := List.mem_map.mp he
        exact copy_flat (n := 0) (fun x => str x) (by have := (hp.part hs).l; omega)
      rcases List.mem_cons.mp he with rfl | he
      · exact (copy_flat copy_row hr).up
      · cases he
theorem fn_fs {k : Nat} {x : Str} {st : Stmt} {N ps : List Str} {α : Type} {pre : α → Prop} {as : α → List Dn} {r : α → Dn} {f0 : Addr} {fd0 : FuncData} (D : FunD K x x (defArgs st) (defBody st) (defScope st) [] [] f0 fd0) (S : FnScope N ps (defScope st)) (hl : ∀ z, (as z).length = ps.length)
    (hp : BodyGo P w K mg base k x st N fun t => ∀ z, pre z → Go t (ro0 N (as z)) none (Brt (r z))) : FnOk P w K mg base CX0 (k + 1) f0 fd0 ps (spF (Fs pre as r)) := by
  refine D.ok S (fun vs H Q E ⟨N1, ds, d, ⟨z, _, e, _⟩, s, rr, q⟩ => by rw [← rr.len, e]; exact hl z) fun cdv A outer s H vs Q E hr h => ?_
  obtain ⟨t, ht, g⟩ := hp f0 cdv A outer s H E hr
  obtain ⟨N1, ds, d, ⟨z, hz, e1, e2⟩, s1, rr, q⟩ := h
  subst e1 e2
  exact ⟨t, ht.nox, g z hz N1 N1 H _ N1 H _ ⟨Same.refl _, .refl s1, start_en rr, fun _ e => nomatch e⟩ fun v N' H' x p => q v N' H' x p⟩
def f_law (K : PySem.W.Frag) := Fs (fun s : List Int => s.length ≤ 1000) (fun s => [dQ K s]) (fun _ => dB true)
theorem sc_law : FnScope ["_law_script", "_law_lot_here", "_law_weights_here", "_law_kind_here", "_law_least_here", "_law_paper_here", "_law_pairs", "_law_kept", "_law_handed", "_law_others", "_law_other", "_law_some"] ["_law_script"] (defScope s_law) := ⟨rfl, rfl, rfl, by decide +kernel, rfl, by decide +kernel, by decide +kernel⟩
theorem bd_law : BindOk "law" s_law ["_law_script"] := fun _ _ _ _ _ _ us hl => match us, hl with | [_], _ => rfl
theorem ok_law {f0 : Addr} {fd0 : FuncData} (T : Txt K mg kA signsZ kindsL) (D : FunD K "law" "law" (defArgs s_law) (defBody s_law) (defScope s_law) [] [] f0 fd0) (c_plain_pairs : Cal P w K mg base 5 "plain_pairs" (spF f_plain_pairs)) (c_shows_all : Cal P w K mg base 9 "shows_all" (spF f_shows_all)) (c_law_cell_at : Cal P w K mg base 1 "_law_cell_at" (spF f_law_cell_at)) (c_law_mix : Cal P w K mg base 1 "_law_mix" (spF f_law_mix)) (c_law_lot : Cal P w K mg base 3 "_law_lot" (spF f_law_lot)) (c_law_weights : Cal P w K mg base 3 "_law_weights" (spF f_law_weights)) (c_law_kind : Cal P w K mg base 2 "_law_kind" (spF f_law_kind)) (c_law_least : Cal P w K mg base 2 "_law_least" (spF f_law_least)) (c_law_shuffled : Cal P w K mg base 2 "_law_shuffled" (spF f_law_shuffled)) (c_law_paper : Cal P w K mg base 7 "_law_paper" (spF f_law_paper)) (c_law_wrong : Cal P w K mg base 1 "_law_wrong" (spF f_law_wrong)) (c_law_copy : Cal P w K mg base 6 "_law_copy" (spF f_law_copy)) (c_law_cut : Cal P w K mg base 1 "_law_cut" (spF (f_law_cut K))) : FnOk P w K mg base CX0 10 f0 fd0 ["_law_script"] (spF (f_law K)) := by
  refine fn_fs D sc_law (fun _ => rfl) (fun f cdv A outer s H E hr => ⟨_, (pss_cons (ps_set (i := 0) sc_law.nd rfl (Or.inl rfl) (pe_cal c_law_cut hr (by decide : (1 : Nat) ≤ 9) rfl (pa_cons (pv 0) pa_nil)))
    (pss_cons (ps_set (i := 1) sc_law.nd rfl (Or.inl rfl) (pe_cal c_law_lot hr (by decide : (3 : Nat) ≤ 9) rfl (pa_cons (pv 0) pa_nil)))
    (pss_cons (ps_set (i := 2) sc_law.nd rfl (Or.inl rfl) (pe_cal c_law_weights hr (by decide : (3 : Nat) ≤ 9) rfl (pa_cons (pv 0) pa_nil)))
    (pss_cons (ps_par (i := 3) (j := 4) rfl sc_law.nd rfl rfl (by decide) rfl rfl (pa_cons (pe_cal c_law_kind hr (by decide : (2 : Nat) ≤ 9) rfl (pa_cons (pv 0) pa_nil)) (pa_cons (pe_cal c_law_least hr (by decide : (2 : Nat) ≤ 9) rfl (pa_cons (pv 0) pa_nil)) pa_nil)) (by rfl))
    (pss_cons (ps_set (i := 5) sc_law.nd rfl (Or.inl rfl) (pe_cal c_law_paper hr (by decide : (7 : Nat) ≤ 9) rfl (pa_cons (pv 0) (pa_cons (pv 3) (pa_cons (pv 4) (pa_cons (pv 1) (pa_cons (pv 2) pa_nil)))))))
    (pss_cons (ps_set (i := 6) sc_law.nd rfl (Or.inl rfl) (pe_cal c_law_shuffled hr (by decide : (2 : Nat) ≤ 9) rfl (pa_cons (pe_cal c_plain_pairs hr (by decide : (5 : Nat) ≤ 9) rfl (pa_cons (pv 3) (pa_cons (pv 4) (pa_cons (pv 1) (pa_cons (pv 2) pa_nil))))) (pa_cons (pe_cal c_law_mix hr (by decide : (1 : Nat) ≤ 9) rfl (pa_cons (pe_cal c_law_cell_at hr (by decide : (1 : Nat) ≤ 9) rfl (pa_cons (pv 0) (pa_cons pe_int pa_nil))) (pa_cons pe_int pa_nil))) pa_nil))))
    (pss_cons (ps_set (i := 7) sc_law.nd rfl (Or.inl rfl) (pe_cal c_law_copy hr (by decide : (6 : Nat) ≤ 9) rfl (pa_cons (pv 5) pa_nil)))
    (pss_cons (ps_set (i := 8) sc_law.nd rfl (Or.inl rfl) (pe_lst (pa_cons (pe_lc (own := [("_law_some", 11)]) (g := (gName 11)) (tt := tYes) rfl sc_law.nd (pi_list (pv 1)) (blkOk_by (N := ["_law_script", "_law_lot_here", "_law_weights_here", "_law_kind_here", "_law_least_here", "_law_paper_here", "_law_pairs", "_law_kept", "_law_handed", "_law_others", "_law_other", "_law_some"]) (sc := defScope s_law) (by decide +kernel)) (fun _ _ _ _ _ => (pg_name (i := 11) sc_law.nd rfl (Or.inl rfl))) (fun _ _ _ _ _ => pts_nil) (fun _ _ _ _ _ => (pe_callTy (k_list K rfl) (by rfl) T.list (by decide +kernel) (pa_cons (pv 11) pa_nil)))) (pa_cons (pe_callTy call_dictC (by rfl) T.dict (by decide +kernel) (pa_cons (pv 2) pa_nil)) (pa_cons (pe_callTy (k_list K rfl) (by rfl) T.list (by decide +kernel) (pa_cons (pv 6) pa_nil)) (pa_cons (pv 5) pa_nil))))))
    (pss_cons (ps_if (pt_cmpR op_notBl (pe_cal c_shows_all hr (by decide : (9 : Nat) ≤ 9) rfl (pa_cons (pv 3) (pa_cons (pv 4) (pa_cons (pe_ix (k_ixL K rfl) (pv 8) pe_int (fun _ _ => rfl)) (pa_cons (pe_ix (k_ixL K rfl) (pv 8) pe_int (fun _ _ => rfl)) (pa_cons (pe_ix (k_ixL K rfl) (pv 8) pe_int (fun _ _ => rfl)) (pa_cons (pe_ix (k_ixL K rfl) (pv 8) pe_int (fun _ _ => rfl)) pa_nil))))))) pe_bl (nomark _)) (pss_cons (ps_ret pe_bl)
    pss_nil) pss_nil)
    (pss_cons (ps_if (pt_cmpR (op_hne rfl hr.u66) (pv 8) (pe_lst (pa_cons (pv 1) (pa_cons (pv 2) (pa_cons (pv 6) (pa_cons (pv 7) pa_nil))))) (nomark _)) (pss_cons (ps_ret pe_bl)
    pss_nil) pss_nil)
    (pss_cons (ps_for PassesOwn.never rfl (pi_list (pe_cal c_law_wrong hr (by decide : (1 : Nat) ≤ 9) rfl (pa_cons (pv 6) (pa_cons (pv 5) (pa_cons (pe_cal c_law_mix hr (by decide : (1 : Nat) ≤ 9) rfl (pa_cons (pe_cal c_law_cell_at hr (by decide : (1 : Nat) ≤ 9) rfl (pa_cons (pv 0) (pa_cons pe_int pa_nil))) (pa_cons pe_int pa_nil))) pa_nil))))) (pg_tup rfl (pgs_cons (pg_name (i := 9) sc_law.nd rfl (Or.inl rfl)) (pgs_cons (pg_name (i := 10) sc_law.nd rfl (Or.inl rfl)) pgs_nil))) (pss_cons (ps_if (pt_cmpR op_notBl (pe_cal c_shows_all hr (by decide : (9 : Nat) ≤ 9) rfl (pa_cons (pv 3) (pa_cons (pv 4) (pa_cons (pe_ix (k_ixL K rfl) (pv 8) pe_int (fun _ _ => rfl)) (pa_cons (pe_ix (k_ixL K rfl) (pv 8) pe_int (fun _ _ => rfl)) (pa_cons (pv 9) (pa_cons (pv 10) pa_nil))))))) pe_bl (nomark _)) (pss_cons (ps_ret pe_bl)
    pss_nil) pss_nil)
    pss_nil))
    (pss_cons (ps_ret (pe_cmpR (op_heq rfl hr.u66) (pv 8) (pe_lst (pa_cons (pv 1) (pa_cons (pv 2) (pa_cons (pv 6) (pa_cons (pv 7) pa_nil))))) (nomark _)))
    pss_nil)))))))))))), ?_⟩)
  rintro s0 hs0
  have hs0 : s0.length ≤ 1000 := hs0
  let s := s0.map cutC
  let l := lotF s
  let W := wF s
  have nl := lotF_ok s
  have ok := nl.ok
  have hn := nl.n
  have wok := wF_ok s
  have wnd := wF_nd s
  refine go_asg (d := dIs s) (ev_call (ea_cons (ev_var rfl) ea_nil) ⟨s0, hs0, rfl, rfl⟩) ?_
  refine go_asg (d := dLot l) (ev_call (ea_cons (ev_var rfl) ea_nil) ⟨s, trivial, rfl, rfl⟩) ?_
  refine go_asg (d := dWt W) (ev_call (ea_cons (ev_var rfl) ea_nil) ⟨s, trivial, rfl, rfl⟩) ?_
  refine go_par (ea_cons (ev_call (ea_cons (ev_var rfl) ea_nil) ⟨s, trivial, rfl, rfl⟩) (ea_cons (ev_call (ea_cons (ev_var rfl) ea_nil) ⟨s, trivial, rfl, rfl⟩) ea_nil)) ?_
  refine go_ex (i := 3) (P := fun _ : Kd => True) (D := dK) rfl fun k _ => ?_
  refine go_ex (i := 4) (P := fun p : Int × Int => Lst p.1 p.2) (D := d2) rfl fun lb hlb => ?_
  obtain ⟨t, b⟩ := lb
  have hlb : Lst t b := hlb
  refine go_asg (ev_call (ea_cons (ev_var rfl) (ea_cons (ev_var rfl) (ea_cons (ev_var rfl) (ea_cons (ev_var rfl) (ea_cons (ev_var rfl) ea_nil))))) ⟨(s, k, (t, b), l, W), ⟨hlb, nl, wok⟩, rfl, rfl⟩) ?_
  refine go_ex (i := 5) (P := GoodP k t b l W) (D := Pap.d) rfl fun p hp => ?_
  have rl := hp.len hn
  let m3 := mixF (cellAt s 14) 3
  let prs : List Pr := shuf (plainPairs k t b l W) m3
  have pp : prs.Perm (((p.J k t b l W).filter (alikeF k t b l W)).map (prOf k l W)) := (shuf_perm _ _).trans (pairs_perm hlb ok wok hp.ok)
  have pl : (plainPairs k t b l W).length ≤ 169 := by
    unfold plainPairs
    rw [List.length_map]
    exact IJ_len hn _
  have prl : prs.length ≤ 169 := by rw [(shuf_perm (plainPairs k t b l W) m3).length_eq]; exact pl
  refine go_asg (d := dL (prs.map dPr)) ((ev_call (ea_cons (ev_call (ea_cons (ev_var rfl) (ea_cons (ev_var rfl) (ea_cons (ev_var rfl) (ea_cons (ev_var rfl) ea_nil)))) ⟨(k, (t, b), l, W), ⟨hlb, ok, wok, wnd⟩, rfl, rfl⟩) (ea_cons (ev_call (ea_cons (ev_call (ea_cons (ev_var rfl) (ea_cons ev_int ea_nil)) ⟨(s, 14), trivial, rfl, rfl⟩) (ea_cons ev_int ea_nil)) ⟨(cellAt s 14, 3), (by show (3 : Nat) ≤ 1000; decide), rfl, rfl⟩) ea_nil)) ⟨((plainPairs k t b l W).map dPr, m3), (by show ((plainPairs k t b l W).map dPr).length ≤ 1000; rw [List.length_map]; omega), rfl, rfl⟩).is (congrArg dL (shuf_map dPr _ _))) ?_
  refine go_asg (d := p.d) (ev_call (ea_cons (ev_var rfl) ea_nil) ⟨p.d, pap_copy hp.ok hn (by omega), rfl, rfl⟩) ?_
  refine go_asgN (en_lst (ea_cons ((en_lc0 l dLS _ _ dLS (wi_list (ev_var rfl)) (fun _ => tg_name) (fun x hx => ((en_cb (ea_cons (ev_var rfl) ea_nil) rc_list)).ev) (Nat.le_trans hn (by decide)) (by decide))).ev (ea_cons (ev_cb (ea_cons (ev_var rfl) ea_nil) rc_dict) (ea_cons ((en_cb (ea_cons (ev_var rfl) ea_nil) rc_list)).ev (ea_cons (ev_var rfl) ea_nil))))) ?_
  refine go_tell ?_
  have hit : ∀ d ∈ [dLot l, dWt W, dL (prs.map dPr), p.d], ItD d := fun d hd => by
    rcases List.mem_cons.mp hd with rfl | hd
    · exact .data (dd_lst (δ := dLS) (f := pS) fun _ _ => dd_ls _) ((shp_lot fun u hu => (ok.s u hu).w).sh (by decide))
    rcases List.mem_cons.mp hd with rfl | hd
    · refine .dict (by rw [List.map_map]; exact wnd) fun q hq => ?_
      obtain ⟨z, _, rfl⟩ := List.mem_map.mp hq
      rfl
    rcases List.mem_cons.mp hd with rfl | hd
    · exact .data (dd_prs prs) ((shp_prs prs).sh (by decide))
    rcases List.mem_cons.mp hd with rfl | hd
    · exact .data (pap_dd p) ((pap_shp hp.ok).sh (by decide))
    · cases hd
  have sh1 : showsB k t b l W prs (.good p) = true := by
    show (decide _ && decide _) = true
    rw [decide_eq_true hp.r, decide_eq_true pp]
    rfl
  refine go_if (b := false) ((et_test (ev_op (ev_call (ea_cons (ev_var rfl) (ea_cons (ev_var rfl) (ea_cons (ev_op (ev_var rfl) ev_int (rv_ixL rfl)) (ea_cons (ev_op (ev_var rfl) ev_int (rv_ixL rfl)) (ea_cons (ev_op (ev_var rfl) ev_int (rv_ixL rfl)) (ea_cons (ev_op (ev_var rfl) ev_int (rv_ixL rfl)) ea_nil)))))) ⟨(k, (t, b), l, W, prs, PapX.good p), ⟨hlb, ok, wok, wnd, hp.ok, by show prs.length ≤ 1000; omega, fun p' e => by cases e; show p.rows.length ≤ 1000; omega⟩, rfl, rfl⟩) ev_bl rv_notBl)).is (by dsimp only; rw [sh1]; rfl)) (fun hb => ?_) (fun hb => ?_)
  · cases hb
  refine go_nextz ?_
  refine go_if (b := false) ((et_test (ev_op (ev_var rfl) ((en_lst (ea_cons (ev_var rfl) (ea_cons (ev_var rfl) (ea_cons (ev_var rfl) (ea_cons (ev_var rfl) ea_nil)))))).ev (rv_heq hit))).is rfl) (fun hb => ?_) (fun hb => ?_)
  · cases hb
  refine go_nextz ?_
  let m4 := mixF (cellAt s 14) 4
  refine go_for (wrongF prs p m4) dWr _ _ (fun pre => [some (dIs s), some (dLot l), some (dWt W), some (dK k), some (d2 (t, b)), some p.d, some (dL (prs.map dPr)), some p.d, some (dL [dLot l, dWt W, dL (prs.map dPr), p.d]), none, none, none]) (fun pre => none) (wi_list (ev_call (ea_cons (ev_var rfl) (ea_cons (ev_var rfl) (ea_cons (ev_call (ea_cons (ev_call (ea_cons (ev_var rfl) (ea_cons ev_int ea_nil)) ⟨(s, 14), trivial, rfl, rfl⟩) (ea_cons ev_int ea_nil)) ⟨(cellAt s 14, 4), (by show (4 : Nat) ≤ 1000; decide), rfl, rfl⟩) ea_nil))) ⟨(prs, p, m4), ⟨by show prs.length ≤ 200; omega, by show p.rows.length ≤ 200; omega⟩, rfl, rfl⟩)) (fun _ => tg_tup2) (by walk_at "mu le") rfl (fun pre q post e => ?_) ?_ ok_n
  · have hq := (pre_len e).2
    obtain ⟨x1, x2, x3⟩ := wrong_ok hp.ok (by omega : prs.length ≤ 200) (by omega : p.rows.length ≤ 200) q hq
    have no := wrong_no hp pp q hq
    refine go_if (b := false) ((et_test (ev_op (ev_call (ea_cons (ev_var rfl) (ea_cons (ev_var rfl) (ea_cons (ev_op (ev_var rfl) ev_int (rv_ixL rfl)) (ea_cons (ev_op (ev_var rfl) ev_int (rv_ixL rfl)) (ea_cons (ev_var rfl) (ea_cons (ev_var rfl) ea_nil)))))) ⟨(k, (t, b), l, W, q.1, q.2), ⟨hlb, ok, wok, wnd, x1, x2, x3⟩, rfl, rfl⟩) ev_bl rv_notBl)).is (by dsimp only; rw [no]; rfl)) (fun hb => ?_) (fun hb => ?_)
    · cases hb
    · exact go_nextz (go_next (by walk_at "mu le"))
  · exact go_ret (ev_op (ev_var rfl) ((en_lst (ea_cons (ev_var rfl) (ea_cons (ev_var rfl) (ea_cons (ev_var rfl) (ea_cons (ev_var rfl) ea_nil)))))).ev (rv_heq hit))
end
end Mu
namespace Mu
open PySem PySem.Spec PyProof.Rows L2
theorem fn_ne {K : PySem.W.Frag} {x y : Str} {st su : Stmt} {f g : Addr} {fd fe : FuncData} (h1 : FunD K x x (defArgs st) (defBody st) (defScope st) [] [] f fd) (h2 : FunD K y y (defArgs su) (defBody su) (defScope su) [] [] g fe) (hn : x ≠ y) : f ≠ g := fun e => by
  subst e
  obtain ⟨oc, od, dV, kV, doc, pm, an, cdv, ct, osl, e1, l1, _⟩ := h1.ex
  obtain ⟨oc', od', dV', kV', doc', pm', an', cdv', ct', osl', e2, l2, _⟩ := h2.ex
  rw [l1] at l2
  injection l2 with l2
  injection l2 with _ _ l2 _
  injection l2 with l2
  rw [e1, e2] at l2
  exact hn (congrArg (fun z : FuncData => z.name) l2)
theorem kinds_ok {K : PySem.W.Frag} (h : exK K = true) : ∀ H, SqL K H (He.ga K "KINDS") (kindsL.map V.str) := fun H => He.lstB_ok h H
theorem chainL {P : Program} {w : World} {K : PySem.W.Frag} {h : Heap} {mg : Str → Option Value} (X : K.In h) (G : h.Ns mainGlobals mg) (c : He.SaysD faL fnL K) (ex : exK K = true) {fa : Addr} (hfa : mg "law" = some (.ref fa)) :
    ∃ fd : FuncData, (∀ (s : Shared) (v : Value), BindsTo s fd ⟨[v], []⟩ [("_law_script", v)]) ∧ ∀ base : Heap, FnOk P w K mg base CX0 10 fa fd ["_law_script"] (spF (f_law K)) := by
  have n_len : mg "len" = none := He.free_ok X G (c.fact 83 (f := .free "len") rfl)
  have n_range : mg "range" = none := He.free_ok X G (c.fact 84 (f := .free "range") rfl)
  have n_sorted : mg "sorted" = none := He.free_ok X G (c.fact 85 (f := .free "sorted") rfl)
  have n_set : mg "set" = none := He.free_ok X G (c.fact 86 (f := .free "set") rfl)
  have n_sum : mg "sum" = none := He.free_ok X G (c.fact 87 (f := .free "sum") rfl)
  have n_all : mg "all" = none := He.free_ok X G (c.fact 88 (f := .free "all") rfl)
  have n_any : mg "any" = none := He.free_ok X G (c.fact 89 (f := .free "any") rfl)
  have n_enumerate : mg "enumerate" = none := He.free_ok X G (c.fact 90 (f := .free "enumerate") rfl)
  have n_zip : mg "zip" = none := He.free_ok X G (c.fact 91 (f := .free "zip") rfl)
  have n_isinstance : mg "isinstance" = none := He.free_ok X G (c.fact 92 (f := .free "isinstance") rfl)
  have n_min : mg "min" = none := He.free_ok X G (c.fact 93 (f := .free "min") rfl)
  have n_max : mg "max" = none := He.free_ok X G (c.fact 94 (f := .free "max") rfl)
  have n_int : mg "int" = none := He.free_ok X G (c.fact 95 (f := .free "int") rfl)
  have n_list : mg "list" = none := He.free_ok X G (c.fact 96 (f := .free "list") rfl)
  have n_dict : mg "dict" = none := He.free_ok X G (c.fact 97 (f := .free "dict") rfl)
  have n_tuple : mg "tuple" = none := He.free_ok X G (c.fact 98 (f := .free "tuple") rfl)
  have n_bool : mg "bool" = none := He.free_ok X G (c.fact 99 (f := .free "bool") rfl)
  have n_str : mg "str" = none := He.free_ok X G (c.fact 100 (f := .free "str") rfl)
  have n_KINDS : mg "KINDS" = some (.ref (He.ga K "KINDS")) := He.glo_ok X G (c.fact 81 (f := .glo "KINDS") rfl)
  have n_SIGNS := He.str_ok X G (c.fact 82 (f := .str "SIGNS" "abcdefghijklmnopqrstuvwxyz0123456789.") rfl)
  have T : Txt K mg (He.ga K "KINDS") signsZ kindsL := ⟨n_len, n_range, n_sorted, n_set, n_sum, n_all, n_any, n_enumerate, n_zip, n_isinstance, n_min, n_max, n_int, n_list, n_dict, n_tuple, n_bool, n_str, n_KINDS, kinds_ok ex, n_SIGNS⟩
  have gOrd : mg "NoOrder" = some (.ref (He.ga K "NoOrder")) := He.glo_ok X G (c.fact 79 (f := .glo "NoOrder") rfl)
  have gPar : mg "NoParts" = some (.ref (He.ga K "NoParts")) := He.glo_ok X G (c.fact 80 (f := .glo "NoParts") rfl)
  have m_is_less : mg "is_less" = some (.ref (He.ga K "is_less")) := He.glo_ok X G (c.fact 2 (f := .glo "is_less") rfl)
  obtain ⟨fd_is_less, FD_is_less⟩ := c.def_ 2 (d := de_is_less) rfl
  have F_is_less : DefF K mg "is_less" s_is_less := ⟨_, _, FD_is_less, m_is_less⟩
  have m_divisor : mg "divisor" = some (.ref (He.ga K "divisor")) := He.glo_ok X G (c.fact 0 (f := .glo "divisor") rfl)
  obtain ⟨fd_divisor, FD_divisor⟩ := c.def_ 0 (d := de_divisor) rfl
  have F_divisor : DefF K mg "divisor" s_divisor := ⟨_, _, FD_divisor, m_divisor⟩
  have m_check_kind : mg "check_kind" = some (.ref (He.ga K "check_kind")) := He.glo_ok X G (c.fact 3 (f := .glo "check_kind") rfl)
  obtain ⟨fd_check_kind, FD_check_kind⟩ := c.def_ 3 (d := de_check_kind) rfl
  have F_check_kind : DefF K mg "check_kind" s_check_kind := ⟨_, _, FD_check_kind, m_check_kind⟩
  have m_check_least : mg "check_least" = some (.ref (He.ga K "check_least")) := He.glo_ok X G (c.fact 4 (f := .glo "check_least") rfl)
  obtain ⟨fd_check_least, FD_check_least⟩ := c.def_ 4 (d := de_check_least) rfl
  have F_check_least : DefF K mg "check_least" s_check_least := ⟨_, _, FD_check_least, m_check_least⟩
  have m_is_word : mg "is_word" = some (.ref (He.ga K "is_word")) := He.glo_ok X G (c.fact 12 (f := .glo "is_word") rfl)
  obtain ⟨fd_is_word, FD_is_word⟩ := c.def_ 12 (d := de_is_word) rfl
  have F_is_word : DefF K mg "is_word" s_is_word := ⟨_, _, FD_is_word, m_is_word⟩
  have m_check_sets : mg "check_sets" = some (.ref (He.ga K "check_sets")) := He.glo_ok X G (c.fact 13 (f := .glo "check_sets") rfl)
  obtain ⟨fd_check_sets, FD_check_sets⟩ := c.def_ 13 (d := de_check_sets) rfl
  have F_check_sets : DefF K mg "check_sets" s_check_sets := ⟨_, _, FD_check_sets, m_check_sets⟩
  have m_check_weights : mg "check_weights" = some (.ref (He.ga K "check_weights")) := He.glo_ok X G (c.fact 14 (f := .glo "check_weights") rfl)
  obtain ⟨fd_check_weights, FD_check_weights⟩ := c.def_ 14 (d := de_check_weights) rfl
  have F_check_weights : DefF K mg "check_weights" s_check_weights := ⟨_, _, FD_check_weights, m_check_weights⟩
  have m_check_lot : mg "check_lot" = some (.ref (He.ga K "check_lot")) := He.glo_ok X G (c.fact 15 (f := .glo "check_lot") rfl)
  obtain ⟨fd_check_lot, FD_check_lot⟩ := c.def_ 15 (d := de_check_lot) rfl
  have F_check_lot : DefF K mg "check_lot" s_check_lot := ⟨_, _, FD_check_lot, m_check_lot⟩
  have m_fraction : mg "fraction" = some (.ref (He.ga K "fraction")) := He.glo_ok X G (c.fact 1 (f := .glo "fraction") rfl)
  obtain ⟨fd_fraction, FD_fraction⟩ := c.def_ 1 (d := de_fraction) rfl
  have F_fraction : DefF K mg "fraction" s_fraction := ⟨_, _, FD_fraction, m_fraction⟩
  have m_share_of : mg "share_of" = some (.ref (He.ga K "share_of")) := He.glo_ok X G (c.fact 5 (f := .glo "share_of") rfl)
  obtain ⟨fd_share_of, FD_share_of⟩ := c.def_ 5 (d := de_share_of) rfl
  have F_share_of : DefF K mg "share_of" s_share_of := ⟨_, _, FD_share_of, m_share_of⟩
  have m_weight : mg "weight" = some (.ref (He.ga K "weight")) := He.glo_ok X G (c.fact 16 (f := .glo "weight") rfl)
  obtain ⟨fd_weight, FD_weight⟩ := c.def_ 16 (d := de_weight) rfl
  have F_weight : DefF K mg "weight" s_weight := ⟨_, _, FD_weight, m_weight⟩
  have m_common : mg "common" = some (.ref (He.ga K "common")) := He.glo_ok X G (c.fact 17 (f := .glo "common") rfl)
  obtain ⟨fd_common, FD_common⟩ := c.def_ 17 (d := de_common) rfl
  have F_common : DefF K mg "common" s_common := ⟨_, _, FD_common, m_common⟩
  have m_share_between : mg "share_between" = some (.ref (He.ga K "share_between")) := He.glo_ok X G (c.fact 18 (f := .glo "share_between") rfl)
  obtain ⟨fd_share_between, FD_share_between⟩ := c.def_ 18 (d := de_share_between) rfl
  have F_share_between : DefF K mg "share_between" s_share_between := ⟨_, _, FD_share_between, m_share_between⟩
  have m_plain_pairs : mg "plain_pairs" = some (.ref (He.ga K "plain_pairs")) := He.glo_ok X G (c.fact 19 (f := .glo "plain_pairs") rfl)
  obtain ⟨fd_plain_pairs, FD_plain_pairs⟩ := c.def_ 19 (d := de_plain_pairs) rfl
  have F_plain_pairs : DefF K mg "plain_pairs" s_plain_pairs := ⟨_, _, FD_plain_pairs, m_plain_pairs⟩
  have m_check_asked : mg "check_asked" = some (.ref (He.ga K "check_asked")) := He.glo_ok X G (c.fact 29 (f := .glo "check_asked") rfl)
  obtain ⟨fd_check_asked, FD_check_asked⟩ := c.def_ 29 (d := de_check_asked) rfl
  have F_check_asked : DefF K mg "check_asked" s_check_asked := ⟨_, _, FD_check_asked, m_check_asked⟩
  have m_alike_of : mg "alike_of" = some (.ref (He.ga K "alike_of")) := He.glo_ok X G (c.fact 34 (f := .glo "alike_of") rfl)
  obtain ⟨fd_alike_of, FD_alike_of⟩ := c.def_ 34 (d := de_alike_of) rfl
  have F_alike_of : DefF K mg "alike_of" s_alike_of := ⟨_, _, FD_alike_of, m_alike_of⟩
  have m_with_common : mg "with_common" = some (.ref (He.ga K "with_common")) := He.glo_ok X G (c.fact 35 (f := .glo "with_common") rfl)
  obtain ⟨fd_with_common, FD_with_common⟩ := c.def_ 35 (d := de_with_common) rfl
  have F_with_common : DefF K mg "with_common" s_with_common := ⟨_, _, FD_with_common, m_with_common⟩
  have m_is_text : mg "is_text" = some (.ref (He.ga K "is_text")) := He.glo_ok X G (c.fact 38 (f := .glo "is_text") rfl)
  obtain ⟨fd_is_text, FD_is_text⟩ := c.def_ 38 (d := de_is_text) rfl
  have F_is_text : DefF K mg "is_text" s_is_text := ⟨_, _, FD_is_text, m_is_text⟩
  have m_are_whole : mg "are_whole" = some (.ref (He.ga K "are_whole")) := He.glo_ok X G (c.fact 36 (f := .glo "are_whole") rfl)
  obtain ⟨fd_are_whole, FD_are_whole⟩ := c.def_ 36 (d := de_are_whole) rfl
  have F_are_whole : DefF K mg "are_whole" s_are_whole := ⟨_, _, FD_are_whole, m_are_whole⟩
  have m_is_row : mg "is_row" = some (.ref (He.ga K "is_row")) := He.glo_ok X G (c.fact 39 (f := .glo "is_row") rfl)
  obtain ⟨fd_is_row, FD_is_row⟩ := c.def_ 39 (d := de_is_row) rfl
  have F_is_row : DefF K mg "is_row" s_is_row := ⟨_, _, FD_is_row, m_is_row⟩
  have m_is_pair : mg "is_pair" = some (.ref (He.ga K "is_pair")) := He.glo_ok X G (c.fact 40 (f := .glo "is_pair") rfl)
  obtain ⟨fd_is_pair, FD_is_pair⟩ := c.def_ 40 (d := de_is_pair) rfl
  have F_is_pair : DefF K mg "is_pair" s_is_pair := ⟨_, _, FD_is_pair, m_is_pair⟩
  have m_is_list_of : mg "is_list_of" = some (.ref (He.ga K "is_list_of")) := He.glo_ok X G (c.fact 37 (f := .glo "is_list_of") rfl)
  obtain ⟨fd_is_list_of, FD_is_list_of⟩ := c.def_ 37 (d := de_is_list_of) rfl
  have F_is_list_of : DefF K mg "is_list_of" s_is_list_of := ⟨_, _, FD_is_list_of, m_is_list_of⟩
  have m_upward : mg "upward" = some (.ref (He.ga K "upward")) := He.glo_ok X G (c.fact 6 (f := .glo "upward") rfl)
  obtain ⟨fd_upward, FD_upward⟩ := c.def_ 6 (d := de_upward) rfl
  have F_upward : DefF K mg "upward" s_upward := ⟨_, _, FD_upward, m_upward⟩
  have m_root_upward : mg "root_upward" = some (.ref (He.ga K "root_upward")) := He.glo_ok X G (c.fact 7 (f := .glo "root_upward") rfl)
  obtain ⟨fd_root_upward, FD_root_upward⟩ := c.def_ 7 (d := de_root_upward) rfl
  have F_root_upward : DefF K mg "root_upward" s_root_upward := ⟨_, _, FD_root_upward, m_root_upward⟩
  have m_need : mg "need" = some (.ref (He.ga K "need")) := He.glo_ok X G (c.fact 8 (f := .glo "need") rfl)
  obtain ⟨fd_need, FD_need⟩ := c.def_ 8 (d := de_need) rfl
  have F_need : DefF K mg "need" s_need := ⟨_, _, FD_need, m_need⟩
  have m_are_mates : mg "are_mates" = some (.ref (He.ga K "are_mates")) := He.glo_ok X G (c.fact 10 (f := .glo "are_mates") rfl)
  obtain ⟨fd_are_mates, FD_are_mates⟩ := c.def_ 10 (d := de_are_mates) rfl
  have F_are_mates : DefF K mg "are_mates" s_are_mates := ⟨_, _, FD_are_mates, m_are_mates⟩
  have m_mates : mg "mates" = some (.ref (He.ga K "mates")) := He.glo_ok X G (c.fact 9 (f := .glo "mates") rfl)
  obtain ⟨fd_mates, FD_mates⟩ := c.def_ 9 (d := de_mates) rfl
  have F_mates : DefF K mg "mates" s_mates := ⟨_, _, FD_mates, m_mates⟩
  have m_least_need : mg "least_need" = some (.ref (He.ga K "least_need")) := He.glo_ok X G (c.fact 11 (f := .glo "least_need") rfl)
  obtain ⟨fd_least_need, FD_least_need⟩ := c.def_ 11 (d := de_least_need) rfl
  have F_least_need : DefF K mg "least_need" s_least_need := ⟨_, _, FD_least_need, m_least_need⟩
  have m_in_order : mg "in_order" = some (.ref (He.ga K "in_order")) := He.glo_ok X G (c.fact 21 (f := .glo "in_order") rfl)
  obtain ⟨fd_in_order, FD_in_order⟩ := c.def_ 21 (d := de_in_order) rfl
  have F_in_order : DefF K mg "in_order" s_in_order := ⟨_, _, FD_in_order, m_in_order⟩
  have m_beginning : mg "beginning" = some (.ref (He.ga K "beginning")) := He.glo_ok X G (c.fact 23 (f := .glo "beginning") rfl)
  obtain ⟨fd_beginning, FD_beginning⟩ := c.def_ 23 (d := de_beginning) rfl
  have F_beginning : DefF K mg "beginning" s_beginning := ⟨_, _, FD_beginning, m_beginning⟩
  have m_agree : mg "agree" = some (.ref (He.ga K "agree")) := He.glo_ok X G (c.fact 26 (f := .glo "agree") rfl)
  obtain ⟨fd_agree, FD_agree⟩ := c.def_ 26 (d := de_agree) rfl
  have F_agree : DefF K mg "agree" s_agree := ⟨_, _, FD_agree, m_agree⟩
  have m_room : mg "room" = some (.ref (He.ga K "room")) := He.glo_ok X G (c.fact 27 (f := .glo "room") rfl)
  obtain ⟨fd_room, FD_room⟩ := c.def_ 27 (d := de_room) rfl
  have F_room : DefF K mg "room" s_room := ⟨_, _, FD_room, m_room⟩
  have m_must_agree : mg "must_agree" = some (.ref (He.ga K "must_agree")) := He.glo_ok X G (c.fact 28 (f := .glo "must_agree") rfl)
  obtain ⟨fd_must_agree, FD_must_agree⟩ := c.def_ 28 (d := de_must_agree) rfl
  have F_must_agree : DefF K mg "must_agree" s_must_agree := ⟨_, _, FD_must_agree, m_must_agree⟩
  have m_parts_hold : mg "parts_hold" = some (.ref (He.ga K "parts_hold")) := He.glo_ok X G (c.fact 31 (f := .glo "parts_hold") rfl)
  obtain ⟨fd_parts_hold, FD_parts_hold⟩ := c.def_ 31 (d := de_parts_hold) rfl
  have F_parts_hold : DefF K mg "parts_hold" s_parts_hold := ⟨_, _, FD_parts_hold, m_parts_hold⟩
  have m_begins_alike : mg "begins_alike" = some (.ref (He.ga K "begins_alike")) := He.glo_ok X G (c.fact 32 (f := .glo "begins_alike") rfl)
  obtain ⟨fd_begins_alike, FD_begins_alike⟩ := c.def_ 32 (d := de_begins_alike) rfl
  have F_begins_alike : DefF K mg "begins_alike" s_begins_alike := ⟨_, _, FD_begins_alike, m_begins_alike⟩
  have m_held_pairs : mg "held_pairs" = some (.ref (He.ga K "held_pairs")) := He.glo_ok X G (c.fact 33 (f := .glo "held_pairs") rfl)
  obtain ⟨fd_held_pairs, FD_held_pairs⟩ := c.def_ 33 (d := de_held_pairs) rfl
  have F_held_pairs : DefF K mg "held_pairs" s_held_pairs := ⟨_, _, FD_held_pairs, m_held_pairs⟩
  have m_are_ends : mg "are_ends" = some (.ref (He.ga K "are_ends")) := He.glo_ok X G (c.fact 41 (f := .glo "are_ends") rfl)
  obtain ⟨fd_are_ends, FD_are_ends⟩ := c.def_ 41 (d := de_are_ends) rfl
  have F_are_ends : DefF K mg "are_ends" s_are_ends := ⟨_, _, FD_are_ends, m_are_ends⟩
  have m_held_by_ends : mg "held_by_ends" = some (.ref (He.ga K "held_by_ends")) := He.glo_ok X G (c.fact 42 (f := .glo "held_by_ends") rfl)
  obtain ⟨fd_held_by_ends, FD_held_by_ends⟩ := c.def_ 42 (d := de_held_by_ends) rfl
  have F_held_by_ends : DefF K mg "held_by_ends" s_held_by_ends := ⟨_, _, FD_held_by_ends, m_held_by_ends⟩
  have m_check_order : mg "check_order" = some (.ref (He.ga K "check_order")) := He.glo_ok X G (c.fact 20 (f := .glo "check_order") rfl)
  obtain ⟨fd_check_order, FD_check_order⟩ := c.def_ 20 (d := de_check_order) rfl
  have F_check_order : DefF K mg "check_order" s_check_order := ⟨_, _, FD_check_order, m_check_order⟩
  have m_is_order : mg "is_order" = some (.ref (He.ga K "is_order")) := He.glo_ok X G (c.fact 43 (f := .glo "is_order") rfl)
  obtain ⟨fd_is_order, FD_is_order⟩ := c.def_ 43 (d := de_is_order) rfl
  have F_is_order : DefF K mg "is_order" s_is_order := ⟨_, _, FD_is_order, m_is_order⟩
  have m_check_parts : mg "check_parts" = some (.ref (He.ga K "check_parts")) := He.glo_ok X G (c.fact 25 (f := .glo "check_parts") rfl)
  obtain ⟨fd_check_parts, FD_check_parts⟩ := c.def_ 25 (d := de_check_parts) rfl
  have F_check_parts : DefF K mg "check_parts" s_check_parts := ⟨_, _, FD_check_parts, m_check_parts⟩
  have m_are_texts : mg "are_texts" = some (.ref (He.ga K "are_texts")) := He.glo_ok X G (c.fact 44 (f := .glo "are_texts") rfl)
  obtain ⟨fd_are_texts, FD_are_texts⟩ := c.def_ 44 (d := de_are_texts) rfl
  have F_are_texts : DefF K mg "are_texts" s_are_texts := ⟨_, _, FD_are_texts, m_are_texts⟩
  have m_are_parts : mg "are_parts" = some (.ref (He.ga K "are_parts")) := He.glo_ok X G (c.fact 45 (f := .glo "are_parts") rfl)
  obtain ⟨fd_are_parts, FD_are_parts⟩ := c.def_ 45 (d := de_are_parts) rfl
  have F_are_parts : DefF K mg "are_parts" s_are_parts := ⟨_, _, FD_are_parts, m_are_parts⟩
  have m_held_of : mg "held_of" = some (.ref (He.ga K "held_of")) := He.glo_ok X G (c.fact 46 (f := .glo "held_of") rfl)
  obtain ⟨fd_held_of, FD_held_of⟩ := c.def_ 46 (d := de_held_of) rfl
  have F_held_of : DefF K mg "held_of" s_held_of := ⟨_, _, FD_held_of, m_held_of⟩
  have m_shows_all : mg "shows_all" = some (.ref (He.ga K "shows_all")) := He.glo_ok X G (c.fact 47 (f := .glo "shows_all") rfl)
  obtain ⟨fd_shows_all, FD_shows_all⟩ := c.def_ 47 (d := de_shows_all) rfl
  have F_shows_all : DefF K mg "shows_all" s_shows_all := ⟨_, _, FD_shows_all, m_shows_all⟩
  have m_law_cell_at : mg "_law_cell_at" = some (.ref (He.ga K "_law_cell_at")) := He.glo_ok X G (c.fact 48 (f := .glo "_law_cell_at") rfl)
  obtain ⟨fd_law_cell_at, FD_law_cell_at⟩ := c.def_ 48 (d := de_law_cell_at) rfl
  have F_law_cell_at : DefF K mg "_law_cell_at" s_law_cell_at := ⟨_, _, FD_law_cell_at, m_law_cell_at⟩
  have m_law_mix : mg "_law_mix" = some (.ref (He.ga K "_law_mix")) := He.glo_ok X G (c.fact 49 (f := .glo "_law_mix") rfl)
  obtain ⟨fd_law_mix, FD_law_mix⟩ := c.def_ 49 (d := de_law_mix) rfl
  have F_law_mix : DefF K mg "_law_mix" s_law_mix := ⟨_, _, FD_law_mix, m_law_mix⟩
  have m_law_names : mg "_law_names" = some (.ref (He.ga K "_law_names")) := He.glo_ok X G (c.fact 51 (f := .glo "_law_names") rfl)
  obtain ⟨fd_law_names, FD_law_names⟩ := c.def_ 51 (d := de_law_names) rfl
  have F_law_names : DefF K mg "_law_names" s_law_names := ⟨_, _, FD_law_names, m_law_names⟩
  have m_law_turned_row : mg "_law_turned_row" = some (.ref (He.ga K "_law_turned_row")) := He.glo_ok X G (c.fact 50 (f := .glo "_law_turned_row") rfl)
  obtain ⟨fd_law_turned_row, FD_law_turned_row⟩ := c.def_ 50 (d := de_law_turned_row) rfl
  have F_law_turned_row : DefF K mg "_law_turned_row" s_law_turned_row := ⟨_, _, FD_law_turned_row, m_law_turned_row⟩
  have m_law_set : mg "_law_set" = some (.ref (He.ga K "_law_set")) := He.glo_ok X G (c.fact 52 (f := .glo "_law_set") rfl)
  obtain ⟨fd_law_set, FD_law_set⟩ := c.def_ 52 (d := de_law_set) rfl
  have F_law_set : DefF K mg "_law_set" s_law_set := ⟨_, _, FD_law_set, m_law_set⟩
  have m_law_lot : mg "_law_lot" = some (.ref (He.ga K "_law_lot")) := He.glo_ok X G (c.fact 53 (f := .glo "_law_lot") rfl)
  obtain ⟨fd_law_lot, FD_law_lot⟩ := c.def_ 53 (d := de_law_lot) rfl
  have F_law_lot : DefF K mg "_law_lot" s_law_lot := ⟨_, _, FD_law_lot, m_law_lot⟩
  have m_law_weights : mg "_law_weights" = some (.ref (He.ga K "_law_weights")) := He.glo_ok X G (c.fact 54 (f := .glo "_law_weights") rfl)
  obtain ⟨fd_law_weights, FD_law_weights⟩ := c.def_ 54 (d := de_law_weights) rfl
  have F_law_weights : DefF K mg "_law_weights" s_law_weights := ⟨_, _, FD_law_weights, m_law_weights⟩
  have m_law_kind : mg "_law_kind" = some (.ref (He.ga K "_law_kind")) := He.glo_ok X G (c.fact 55 (f := .glo "_law_kind") rfl)
  obtain ⟨fd_law_kind, FD_law_kind⟩ := c.def_ 55 (d := de_law_kind) rfl
  have F_law_kind : DefF K mg "_law_kind" s_law_kind := ⟨_, _, FD_law_kind, m_law_kind⟩
  have m_law_least : mg "_law_least" = some (.ref (He.ga K "_law_least")) := He.glo_ok X G (c.fact 56 (f := .glo "_law_least") rfl)
  obtain ⟨fd_law_least, FD_law_least⟩ := c.def_ 56 (d := de_law_least) rfl
  have F_law_least : DefF K mg "_law_least" s_law_least := ⟨_, _, FD_law_least, m_law_least⟩
  have m_law_shuffled : mg "_law_shuffled" = some (.ref (He.ga K "_law_shuffled")) := He.glo_ok X G (c.fact 73 (f := .glo "_law_shuffled") rfl)
  obtain ⟨fd_law_shuffled, FD_law_shuffled⟩ := c.def_ 73 (d := de_law_shuffled) rfl
  have F_law_shuffled : DefF K mg "_law_shuffled" s_law_shuffled := ⟨_, _, FD_law_shuffled, m_law_shuffled⟩
  have m_law_order : mg "_law_order" = some (.ref (He.ga K "_law_order")) := He.glo_ok X G (c.fact 61 (f := .glo "_law_order") rfl)
  obtain ⟨fd_law_order, FD_law_order⟩ := c.def_ 61 (d := de_law_order) rfl
  have F_law_order : DefF K mg "_law_order" s_law_order := ⟨_, _, FD_law_order, m_law_order⟩
  have m_law_parts : mg "_law_parts" = some (.ref (He.ga K "_law_parts")) := He.glo_ok X G (c.fact 65 (f := .glo "_law_parts") rfl)
  obtain ⟨fd_law_parts, FD_law_parts⟩ := c.def_ 65 (d := de_law_parts) rfl
  have F_law_parts : DefF K mg "_law_parts" s_law_parts := ⟨_, _, FD_law_parts, m_law_parts⟩
  have m_law_weight : mg "_law_weight" = some (.ref (He.ga K "_law_weight")) := He.glo_ok X G (c.fact 57 (f := .glo "_law_weight") rfl)
  obtain ⟨fd_law_weight, FD_law_weight⟩ := c.def_ 57 (d := de_law_weight) rfl
  have F_law_weight : DefF K mg "_law_weight" s_law_weight := ⟨_, _, FD_law_weight, m_law_weight⟩
  have m_law_need : mg "_law_need" = some (.ref (He.ga K "_law_need")) := He.glo_ok X G (c.fact 58 (f := .glo "_law_need") rfl)
  obtain ⟨fd_law_need, FD_law_need⟩ := c.def_ 58 (d := de_law_need) rfl
  have F_law_need : DefF K mg "_law_need" s_law_need := ⟨_, _, FD_law_need, m_law_need⟩
  have m_law_are_mates : mg "_law_are_mates" = some (.ref (He.ga K "_law_are_mates")) := He.glo_ok X G (c.fact 59 (f := .glo "_law_are_mates") rfl)
  obtain ⟨fd_law_are_mates, FD_law_are_mates⟩ := c.def_ 59 (d := de_law_are_mates) rfl
  have F_law_are_mates : DefF K mg "_law_are_mates" s_law_are_mates := ⟨_, _, FD_law_are_mates, m_law_are_mates⟩
  have m_law_in_order : mg "_law_in_order" = some (.ref (He.ga K "_law_in_order")) := He.glo_ok X G (c.fact 62 (f := .glo "_law_in_order") rfl)
  obtain ⟨fd_law_in_order, FD_law_in_order⟩ := c.def_ 62 (d := de_law_in_order) rfl
  have F_law_in_order : DefF K mg "_law_in_order" s_law_in_order := ⟨_, _, FD_law_in_order, m_law_in_order⟩
  have m_law_rest : mg "_law_rest" = some (.ref (He.ga K "_law_rest")) := He.glo_ok X G (c.fact 63 (f := .glo "_law_rest") rfl)
  obtain ⟨fd_law_rest, FD_law_rest⟩ := c.def_ 63 (d := de_law_rest) rfl
  have F_law_rest : DefF K mg "_law_rest" s_law_rest := ⟨_, _, FD_law_rest, m_law_rest⟩
  have m_law_least_need : mg "_law_least_need" = some (.ref (He.ga K "_law_least_need")) := He.glo_ok X G (c.fact 60 (f := .glo "_law_least_need") rfl)
  obtain ⟨fd_law_least_need, FD_law_least_need⟩ := c.def_ 60 (d := de_law_least_need) rfl
  have F_law_least_need : DefF K mg "_law_least_need" s_law_least_need := ⟨_, _, FD_law_least_need, m_law_least_need⟩
  have m_law_beginning : mg "_law_beginning" = some (.ref (He.ga K "_law_beginning")) := He.glo_ok X G (c.fact 64 (f := .glo "_law_beginning") rfl)
  obtain ⟨fd_law_beginning, FD_law_beginning⟩ := c.def_ 64 (d := de_law_beginning) rfl
  have F_law_beginning : DefF K mg "_law_beginning" s_law_beginning := ⟨_, _, FD_law_beginning, m_law_beginning⟩
  have m_law_agreeing : mg "_law_agreeing" = some (.ref (He.ga K "_law_agreeing")) := He.glo_ok X G (c.fact 67 (f := .glo "_law_agreeing") rfl)
  obtain ⟨fd_law_agreeing, FD_law_agreeing⟩ := c.def_ 67 (d := de_law_agreeing) rfl
  have F_law_agreeing : DefF K mg "_law_agreeing" s_law_agreeing := ⟨_, _, FD_law_agreeing, m_law_agreeing⟩
  have m_law_holds : mg "_law_holds" = some (.ref (He.ga K "_law_holds")) := He.glo_ok X G (c.fact 68 (f := .glo "_law_holds") rfl)
  obtain ⟨fd_law_holds, FD_law_holds⟩ := c.def_ 68 (d := de_law_holds) rfl
  have F_law_holds : DefF K mg "_law_holds" s_law_holds := ⟨_, _, FD_law_holds, m_law_holds⟩
  have m_law_held : mg "_law_held" = some (.ref (He.ga K "_law_held")) := He.glo_ok X G (c.fact 69 (f := .glo "_law_held") rfl)
  obtain ⟨fd_law_held, FD_law_held⟩ := c.def_ 69 (d := de_law_held) rfl
  have F_law_held : DefF K mg "_law_held" s_law_held := ⟨_, _, FD_law_held, m_law_held⟩
  have m_law_ends : mg "_law_ends" = some (.ref (He.ga K "_law_ends")) := He.glo_ok X G (c.fact 70 (f := .glo "_law_ends") rfl)
  obtain ⟨fd_law_ends, FD_law_ends⟩ := c.def_ 70 (d := de_law_ends) rfl
  have F_law_ends : DefF K mg "_law_ends" s_law_ends := ⟨_, _, FD_law_ends, m_law_ends⟩
  have m_law_by_ends : mg "_law_by_ends" = some (.ref (He.ga K "_law_by_ends")) := He.glo_ok X G (c.fact 71 (f := .glo "_law_by_ends") rfl)
  obtain ⟨fd_law_by_ends, FD_law_by_ends⟩ := c.def_ 71 (d := de_law_by_ends) rfl
  have F_law_by_ends : DefF K mg "_law_by_ends" s_law_by_ends := ⟨_, _, FD_law_by_ends, m_law_by_ends⟩
  have m_law_common : mg "_law_common" = some (.ref (He.ga K "_law_common")) := He.glo_ok X G (c.fact 66 (f := .glo "_law_common") rfl)
  obtain ⟨fd_law_common, FD_law_common⟩ := c.def_ 66 (d := de_law_common) rfl
  have F_law_common : DefF K mg "_law_common" s_law_common := ⟨_, _, FD_law_common, m_law_common⟩
  have m_law_rows : mg "_law_rows" = some (.ref (He.ga K "_law_rows")) := He.glo_ok X G (c.fact 72 (f := .glo "_law_rows") rfl)
  obtain ⟨fd_law_rows, FD_law_rows⟩ := c.def_ 72 (d := de_law_rows) rfl
  have F_law_rows : DefF K mg "_law_rows" s_law_rows := ⟨_, _, FD_law_rows, m_law_rows⟩
  have m_law_paper : mg "_law_paper" = some (.ref (He.ga K "_law_paper")) := He.glo_ok X G (c.fact 74 (f := .glo "_law_paper") rfl)
  obtain ⟨fd_law_paper, FD_law_paper⟩ := c.def_ 74 (d := de_law_paper) rfl
  have F_law_paper : DefF K mg "_law_paper" s_law_paper := ⟨_, _, FD_law_paper, m_law_paper⟩
  have m_law_wrong : mg "_law_wrong" = some (.ref (He.ga K "_law_wrong")) := He.glo_ok X G (c.fact 75 (f := .glo "_law_wrong") rfl)
  obtain ⟨fd_law_wrong, FD_law_wrong⟩ := c.def_ 75 (d := de_law_wrong) rfl
  have F_law_wrong : DefF K mg "_law_wrong" s_law_wrong := ⟨_, _, FD_law_wrong, m_law_wrong⟩
  have m_law_copy : mg "_law_copy" = some (.ref (He.ga K "_law_copy")) := He.glo_ok X G (c.fact 76 (f := .glo "_law_copy") rfl)
  obtain ⟨fd_law_copy, FD_law_copy⟩ := c.def_ 76 (d := de_law_copy) rfl
  have F_law_copy : DefF K mg "_law_copy" s_law_copy := ⟨_, _, FD_law_copy, m_law_copy⟩
  have m_law_cut : mg "_law_cut" = some (.ref (He.ga K "_law_cut")) := He.glo_ok X G (c.fact 77 (f := .glo "_law_cut") rfl)
  obtain ⟨fd_law_cut, FD_law_cut⟩ := c.def_ 77 (d := de_law_cut) rfl
  have F_law_cut : DefF K mg "_law_cut" s_law_cut := ⟨_, _, FD_law_cut, m_law_cut⟩
  have m_law : mg "law" = some (.ref (He.ga K "law")) := He.glo_ok X G (c.fact 78 (f := .glo "law") rfl)
  obtain ⟨fd_law, FD_law⟩ := c.def_ 78 (d := de_law) rfl
  have F_law : DefF K mg "law" s_law := ⟨_, _, FD_law, m_law⟩
  have ne_rt : He.ga K "is_row" ≠ He.ga K "is_text" := fn_ne (x := "is_row") (y := "is_text") (st := s_is_row) (su := s_is_text) FD_is_row FD_is_text (by decide)
  have ne_pt : He.ga K "is_pair" ≠ He.ga K "is_text" := fn_ne (x := "is_pair") (y := "is_text") (st := s_is_pair) (su := s_is_text) FD_is_pair FD_is_text (by decide)
  have ne_pr : He.ga K "is_pair" ≠ He.ga K "is_row" := fn_ne (x := "is_pair") (y := "is_row") (st := s_is_pair) (su := s_is_row) FD_is_pair FD_is_row (by decide)
  have e := hfa.symm.trans m_law
  cases e
  have b := FunD.bindsA (ps := ["_law_script"]) FD_law fun _ _ _ _ _ _ us hl => match us, hl with | [_], _ => rfl
  refine ⟨fd_law, fun s v => b s [v] rfl, fun base => ?_⟩
  have c_is_less := ok_is_less (P := P) (w := w) (base := base) T F_is_less 
  have c_divisor := ok_divisor (P := P) (w := w) (base := base) T F_divisor 
  have c_check_kind := ok_check_kind (P := P) (w := w) (base := base) T F_check_kind 
  have c_check_least := ok_check_least (P := P) (w := w) (base := base) T F_check_least c_divisor c_check_kind
  have c_is_word := ok_is_word (P := P) (w := w) (base := base) T F_is_word 
  have c_check_sets := ok_check_sets (P := P) (w := w) (base := base) T F_check_sets c_is_word
  have c_check_weights := ok_check_weights (P := P) (w := w) (base := base) T F_check_weights c_is_word
  have c_check_lot := ok_check_lot (P := P) (w := w) (base := base) T F_check_lot c_check_sets c_check_weights
  have c_fraction := ok_fraction (P := P) (w := w) (base := base) T F_fraction c_divisor
  have c_share_of := ok_share_of (P := P) (w := w) (base := base) T F_share_of c_fraction c_check_kind
  have c_weight := ok_weight (P := P) (w := w) (base := base) T F_weight 
  have c_common := ok_common (P := P) (w := w) (base := base) T F_common c_weight
  have c_share_between := ok_share_between (P := P) (w := w) (base := base) T F_share_between c_share_of c_weight c_common
  have c_plain_pairs := ok_plain_pairs (P := P) (w := w) (base := base) T F_plain_pairs c_is_less c_check_least c_check_lot c_share_between
  have c_check_asked := ok_check_asked (P := P) (w := w) (base := base) T F_check_asked c_check_kind c_check_least c_check_lot
  have c_alike_of := ok_alike_of (P := P) (w := w) (base := base) T F_alike_of c_share_of c_weight c_common
  have c_with_common := ok_with_common (P := P) (w := w) (base := base) T F_with_common c_common
  have c_is_text := ok_is_text (P := P) (w := w) (base := base) T F_is_text 
  have c_are_whole := ok_are_whole (P := P) (w := w) (base := base) T F_are_whole 
  have c_is_row := ok_is_row (P := P) (w := w) (base := base) T F_is_row c_are_whole
  have c_is_pair := ok_is_pair (P := P) (w := w) (base := base) T F_is_pair c_are_whole
  have c_is_list_of1 := ok_is_list_of (P := P) (w := w) (base := base) (k := 2) T F_is_list_of (s1_held (c_is_text.mono (by decide)) m_is_text c_is_row m_is_row c_is_pair m_is_pair)
  have c_upward := ok_upward (P := P) (w := w) (base := base) T F_upward 
  have c_root_upward := ok_root_upward (P := P) (w := w) (base := base) T F_root_upward 
  have c_need := ok_need (P := P) (w := w) (base := base) T F_need c_check_least c_upward c_root_upward
  have c_are_mates := ok_are_mates (P := P) (w := w) (base := base) T F_are_mates c_need
  have c_mates := ok_mates (P := P) (w := w) (base := base) T F_mates c_check_least c_upward
  have c_least_need := ok_least_need (P := P) (w := w) (base := base) T F_least_need c_need c_mates
  have c_in_order := ok_in_order (P := P) (w := w) (base := base) T F_in_order 
  have c_beginning := ok_beginning (P := P) (w := w) (base := base) T F_beginning c_check_kind c_check_least c_least_need c_weight c_in_order
  have c_agree := ok_agree (P := P) (w := w) (base := base) T F_agree 
  have c_room := ok_room (P := P) (w := w) (base := base) T F_room c_need
  have c_must_agree := ok_must_agree (P := P) (w := w) (base := base) T F_must_agree c_room
  have c_parts_hold := ok_parts_hold (P := P) (w := w) (base := base) T F_parts_hold c_weight c_agree c_must_agree
  have c_begins_alike := ok_begins_alike (P := P) (w := w) (base := base) T F_begins_alike 
  have c_held_pairs := ok_held_pairs (P := P) (w := w) (base := base) T F_held_pairs c_are_mates c_weight c_beginning c_parts_hold c_begins_alike
  have c_are_ends := ok_are_ends (P := P) (w := w) (base := base) T F_are_ends c_beginning c_are_whole
  have c_held_by_ends := ok_held_by_ends (P := P) (w := w) (base := base) T F_held_by_ends c_are_mates c_weight c_in_order c_begins_alike
  have c_check_order := ok_check_order (P := P) (w := w) (base := base) T F_check_order c_is_word
  have c_is_order := ok_is_order (P := P) (w := w) (base := base) T F_is_order c_check_order c_is_list_of1 gOrd m_is_text
  have c_check_parts := ok_check_parts (P := P) (w := w) (base := base) T F_check_parts c_is_word
  have c_are_texts := ok_are_texts (P := P) (w := w) (base := base) T F_are_texts c_is_list_of1 m_is_text
  have c_is_list_of2 := ok_is_list_of (P := P) (w := w) (base := base) (k := 4) T F_is_list_of (s2_held c_are_texts m_are_texts)
  have c_are_parts := ok_are_parts (P := P) (w := w) (base := base) T F_are_parts c_check_parts c_is_list_of2 gPar m_are_texts
  have c_held_of := ok_held_of (P := P) (w := w) (base := base) T F_held_of c_held_pairs c_is_text c_are_ends c_held_by_ends c_is_order c_are_parts
  have c_shows_all := ok_shows_all (P := P) (w := w) (base := base) T F_shows_all c_check_asked c_alike_of c_with_common c_is_list_of1 c_held_of m_is_row m_is_pair ne_rt ne_pt ne_pr
  have c_law_cell_at := ok_law_cell_at (P := P) (w := w) (base := base) T F_law_cell_at 
  have c_law_mix := ok_law_mix (P := P) (w := w) (base := base) T F_law_mix 
  have c_law_names := ok_law_names (P := P) (w := w) (base := base) T F_law_names c_law_cell_at c_law_mix
  have c_law_turned_row := ok_law_turned_row (P := P) (w := w) (base := base) T F_law_turned_row 
  have c_law_set := ok_law_set (P := P) (w := w) (base := base) T F_law_set c_law_mix c_law_turned_row
  have c_law_lot := ok_law_lot (P := P) (w := w) (base := base) T F_law_lot c_law_cell_at c_law_mix c_law_names c_law_set
  have c_law_weights := ok_law_weights (P := P) (w := w) (base := base) T F_law_weights c_law_cell_at c_law_mix c_law_names
  have c_law_kind := ok_law_kind (P := P) (w := w) (base := base) T F_law_kind c_law_cell_at c_law_mix
  have c_law_least := ok_law_least (P := P) (w := w) (base := base) T F_law_least c_law_cell_at c_law_mix
  have c_law_shuffled := ok_law_shuffled (P := P) (w := w) (base := base) T F_law_shuffled c_law_turned_row
  have c_law_order := ok_law_order (P := P) (w := w) (base := base) T F_law_order c_law_cell_at c_law_mix c_law_turned_row
  have c_law_parts := ok_law_parts (P := P) (w := w) (base := base) T F_law_parts c_law_cell_at c_law_mix
  have c_law_weight := ok_law_weight (P := P) (w := w) (base := base) T F_law_weight 
  have c_law_need := ok_law_need (P := P) (w := w) (base := base) T F_law_need 
  have c_law_are_mates := ok_law_are_mates (P := P) (w := w) (base := base) T F_law_are_mates c_law_need
  have c_law_in_order := ok_law_in_order (P := P) (w := w) (base := base) T F_law_in_order 
  have c_law_rest := ok_law_rest (P := P) (w := w) (base := base) T F_law_rest c_law_weight c_law_in_order
  have c_law_least_need := ok_law_least_need (P := P) (w := w) (base := base) T F_law_least_need c_law_need c_law_are_mates
  have c_law_beginning := ok_law_beginning (P := P) (w := w) (base := base) T F_law_beginning c_law_weight c_law_least_need c_law_in_order c_law_rest
  have c_law_agreeing := ok_law_agreeing (P := P) (w := w) (base := base) T F_law_agreeing 
  have c_law_holds := ok_law_holds (P := P) (w := w) (base := base) T F_law_holds c_law_weight c_law_need c_law_are_mates c_law_rest c_law_beginning c_law_agreeing
  have c_law_held := ok_law_held (P := P) (w := w) (base := base) T F_law_held c_law_holds
  have c_law_ends := ok_law_ends (P := P) (w := w) (base := base) T F_law_ends c_law_mix c_law_beginning
  have c_law_by_ends := ok_law_by_ends (P := P) (w := w) (base := base) T F_law_by_ends c_law_weight c_law_are_mates c_law_in_order
  have c_law_common := ok_law_common (P := P) (w := w) (base := base) T F_law_common c_law_weight
  have c_law_rows := ok_law_rows (P := P) (w := w) (base := base) T F_law_rows c_law_common
  have c_law_paper := ok_law_paper (P := P) (w := w) (base := base) T F_law_paper c_law_cell_at c_law_mix c_law_order c_law_parts c_law_held c_law_ends c_law_by_ends c_law_rows c_law_shuffled
  have c_law_wrong := ok_law_wrong (P := P) (w := w) (base := base) T F_law_wrong 
  have c_law_copy := ok_law_copy (P := P) (w := w) (base := base) T F_law_copy
  have c_law_cut := ok_law_cut (P := P) (w := w) (base := base) T F_law_cut 
  have c_law := ok_law (P := P) (w := w) (base := base) T FD_law c_plain_pairs c_shows_all c_law_cell_at c_law_mix c_law_lot c_law_weights c_law_kind c_law_least c_law_shuffled c_law_paper c_law_wrong c_law_copy c_law_cut
  exact c_law
theorem lawSp {K : PySem.W.Frag} (H : Hp) (a : Addr) (ns : List Int) (hl : ns.length ≤ 63) (hS : SqL K H a (ns.map V.int)) : spF (f_law K) [.ref a] H (fun v _ => v = .bl true) (fun _ _ _ => False) :=
  ⟨H, [dQ K ns], dB true, ⟨ns, by show ns.length ≤ 1000; omega, rfl, rfl⟩, Same.refl _, .cons ⟨a, rfl, hS⟩ .nil, fun v N' H' x p => p⟩
theorem saysD {w : World} {h : Heap} {K : PySem.W.Frag} (c : He.SaysX faL fnL [] [] exK w h K) : He.SaysD faL fnL K := congrArg (fun z : He.AlT => z.1) c.t
end Mu
open PySem PySem.W PySem.Calls PyProof.Rows
theorem PySem.Challenge.cw_muchalike_k52_whole_papers_made_by_other_holds : PySem.Challenge.rw_muchalike_k52_whole_papers_made_by_other.Holds := by
  w_on; o_law
  refine HandSHeadRun.head_any (r := OpenLaw.row PySem.Challenge.rw_muchalike_k52_whole_papers_made_by_other) (q := view (OpenLaw.row PySem.Challenge.rw_muchalike_k52_whole_papers_made_by_other).prog [95]) (H := Mu.hkL) (ob := Mu.obL) (M := 20000) (loose := Mu.looseL) (d := HandSHeadRun.topDef (OpenLaw.row PySem.Challenge.rw_muchalike_k52_whole_papers_made_by_other).prog 95) (kwd := []) Mu.obL_eq
    (by kernel_rfl) (fun s => by kernel_rfl) Mu.runL (by kernel_rfl) (by kernel_rfl) (by kernel_rfl) (by rfl) (by first | assumption | decide +kernel) (by decide +kernel) ⟨rfl, rfl, rfl, rfl, rfl, by decide +kernel⟩ ?hw ?hc
  case hw => w_witness2
  case hc =>
    refine L2.walk_ofE (l := PySem.Challenge.rw_muchalike_k52_whole_papers_made_by_other) (n := 63) (k := 10) (x := "_law_script") (CX := L2.CX0) rfl (by decide) (by kernel_rfl) ⟨rfl, by decide, by decide⟩ ?F (fun _ _ _ _ z => z)
    intro w mg fa h Y G hmg0
    obtain ⟨K, KX, c⟩ := Y
    have hmg : mg ("law" : PySem.Str) = some (.ref fa) := by
      have e : (HandSHeadRun.topDef (OpenLaw.row PySem.Challenge.rw_muchalike_k52_whole_papers_made_by_other).prog 95).name = ("law" : PySem.Str) := by kernel_rfl
      rw [← e]
      exact hmg0
    obtain ⟨fd, hb, hF⟩ := Mu.chainL (P := (PySem.Challenge.rw_muchalike_k52_whole_papers_made_by_other).prog) (w := w) KX G (Mu.saysD c) c.more hmg
    exact ⟨K, fd, Mu.spF (Mu.f_law K), KX, hb, fun H a ns hl _ hS => Mu.lawSp H a ns hl hS, fun base _ _ => hF base⟩
