import PyProof.Rows.All
import Wide.All
import OpenK.AllK
import Wide.FinOn
import HandS.ForMost
import HandS.Flow
import HandS.TupAny
import HandS.TupMul
import HandS.Zip
import HandS.Walk
import HandS.IsInst
import HandS.Wide
import HandS.SetFor
import HandS.Strs
import HandS.SortInts
import HandS.EndBits
import HandS.Evl
import HandS.TupSets
import PySem.Challenge.RW_latticepoints_k48_whole_boxes_of_cones
set_option Elab.async false
set_option linter.all false
set_option maxRecDepth 100000
set_option maxHeartbeats 4000000
/-! Our own data layer: what a value is, as data; what an expression gives, as data. -/
namespace Lk
open PySem PySem.Spec PyProof.Rows L2
open Evl (Ex)

inductive D where
  | int (i : Int) | bl (b : Bool) | non | ty (n : String) | tup (xs : List D) | lst (xs : List D)

/-- the same outside of o -/
def Xv (o : List Addr) (H H' : Hp) : Prop := ∀ a x, a ∉ o → H a = some x → H' a = some x
theorem _root_.Evl.Ex.v {o : List Addr} {H H' : Hp} (h : Ex H H') : Xv o H H' := fun a x _ e => h a x e
theorem Xv.refl (o : List Addr) (H : Hp) : Xv o H H := fun _ _ _ h => h
theorem Xv.trans {o : List Addr} {H H1 H2 : Hp} (a : Xv o H H1) (b : Xv o H1 H2) : Xv o H H2 := fun x u n h => b x u n (a x u n h)
theorem Xv.more {o : List Addr} {p : Addr} {H H' : Hp} (h : Xv o H H') : Xv (p :: o) H H' := fun a x n e => h a x (fun z => n (List.mem_cons_of_mem _ z)) e
/-- an address that H did not know may be written -/
theorem Xv.less {o : List Addr} {p : Addr} {H H' : Hp} (h : Xv (p :: o) H H') (hp : H p = none) : Xv o H H' := fun a x n e => by
  refine h a x (fun z => ?_) e
  rcases List.mem_cons.mp z with z | z
  · subst z
    rw [hp] at e
    cases e
  · exact n z

mutual
/-- v is the data d, by objects that do not stand in o -/
def Is (o : List Addr) (H : Hp) : D → V → Prop
  | .int i, v => v = .int i
  | .bl b, v => v = .bl b
  | .non, v => v = .non
  | .ty n, v => v = .ty n
  | .tup xs, v => ∃ p us, v = .ref p ∧ p ∉ o ∧ H p = some (.tup us) ∧ IsAll o H xs us
  | .lst xs, v => ∃ p us, v = .ref p ∧ p ∉ o ∧ H p = some (.lst us) ∧ IsAll o H xs us
def IsAll (o : List Addr) (H : Hp) : List D → List V → Prop
  | [], us => us = []
  | d :: ds, us => ∃ u r, us = u :: r ∧ Is o H d u ∧ IsAll o H ds r
end

section
variable {o : List Addr} {H H' : Hp}
mutual
theorem Is.map {o' : List Addr} (e : ∀ a x, a ∉ o → H a = some x → a ∉ o' ∧ H' a = some x) : ∀ {d : D} {v : V}, Is o H d v → Is o' H' d v
  | .int _, _, h => h
  | .bl _, _, h => h
  | .non, _, h => h
  | .ty _, _, h => h
  | .tup xs, _, h => by
    obtain ⟨p, us, e1, e2, e3, e4⟩ := h
    exact ⟨p, us, e1, (e p _ e2 e3).1, (e p _ e2 e3).2, IsAll.map e e4⟩
  | .lst xs, _, h => by
    obtain ⟨p, us, e1, e2, e3, e4⟩ := h
    exact ⟨p, us, e1, (e p _ e2 e3).1, (e p _ e2 e3).2, IsAll.map e e4⟩
theorem IsAll.map {o' : List Addr} (e : ∀ a x, a ∉ o → H a = some x → a ∉ o' ∧ H' a = some x) : ∀ {ds : List D} {us : List V}, IsAll o H ds us → IsAll o' H' ds us
  | [], _, h => h
  | d :: ds, _, h => by
    obtain ⟨u, r, e1, e2, e3⟩ := h
    exact ⟨u, r, e1, Is.map e e2, IsAll.map e e3⟩
end
theorem Is.mono {d : D} {v : V} (e : Xv o H H') (h : Is o H d v) : Is o H' d v := h.map fun a x n q => ⟨n, e a x n q⟩
theorem IsAll.mono {ds : List D} {us : List V} (e : Xv o H H') (h : IsAll o H ds us) : IsAll o H' ds us := h.map fun a x n q => ⟨n, e a x n q⟩
theorem Is.weak {o' : List Addr} (s : ∀ a, a ∈ o' → a ∈ o) {d : D} {v : V} (h : Is o H d v) : Is o' H d v := h.map fun a x n q => ⟨fun z => n (s a z), q⟩
theorem IsAll.weak {o' : List Addr} (s : ∀ a, a ∈ o' → a ∈ o) {ds : List D} {us : List V} (h : IsAll o H ds us) : IsAll o' H ds us := h.map fun a x n q => ⟨fun z => n (s a z), q⟩
theorem Is.hide {p : Addr} {x : HO} {d : D} {v : V} (hp : H p = none) (h : Is o H d v) : Is (p :: o) (upd H p x) d v := h.map fun a y n q =>
  ⟨fun z => (List.mem_cons.mp z).elim (fun z => by subst z; rw [hp] at q; cases q) n, Ex.new hp a y q⟩
theorem IsAll.len : ∀ {ds : List D} {us : List V}, IsAll o H ds us → us.length = ds.length
  | [], _, h => by
    have h : _ = [] := h
    rw [h] <;> rfl
  | d :: ds, _, h => by
    obtain ⟨u, r, rfl, _, h3⟩ := h
    rw [List.length_cons, List.length_cons, IsAll.len h3]
theorem IsAll.get : ∀ {ds : List D} {us : List V} {i : Nat} {d : D}, IsAll o H ds us → ds[i]? = some d → ∃ u, us[i]? = some u ∧ Is o H d u
  | [], _, _, _, _, e => by simp at e
  | d :: ds, _, 0, _, h, e => by
    obtain ⟨u, r, rfl, h2, h3⟩ := h
    have e : some d = some _ := e
    cases e
    exact ⟨u, rfl, h2⟩
  | d :: ds, _, i + 1, x, h, e => by
    obtain ⟨u, r, rfl, h2, h3⟩ := h
    exact IsAll.get (i := i) h3 (by simpa using e)
theorem IsAll.back : ∀ {ds : List D} {us : List V} {i : Nat} {u : V}, IsAll o H ds us → us[i]? = some u → ∃ d, ds[i]? = some d ∧ Is o H d u
  | [], _, _, _, h, e => by
    have h : _ = [] := h
    subst h
    simp at e
  | d :: ds, _, 0, _, h, e => by
    obtain ⟨u, r, rfl, h2, h3⟩ := h
    have e : some u = some _ := e
    cases e
    exact ⟨d, rfl, h2⟩
  | d :: ds, _, i + 1, x, h, e => by
    obtain ⟨u, r, rfl, h2, h3⟩ := h
    exact IsAll.back (i := i) h3 (by simpa using e)
theorem IsAll.append : ∀ {ds es : List D} {us ws : List V}, IsAll o H ds us → IsAll o H es ws → IsAll o H (ds ++ es) (us ++ ws)
  | [], _, _, _, h, g => by
    have h : _ = [] := h
    subst h
    exact g
  | d :: ds, _, _, _, h, g => by
    obtain ⟨u, r, rfl, h2, h3⟩ := h
    exact ⟨u, _, rfl, h2, IsAll.append h3 g⟩
theorem IsAll.one {d : D} {u : V} (h : Is o H d u) : IsAll o H [d] [u] := ⟨u, [], rfl, h, rfl⟩
theorem IsAll.drop : ∀ {ds : List D} {us : List V} (n : Nat), IsAll o H ds us → IsAll o H (ds.drop n) (us.drop n)
  | _, _, 0, h => h
  | [], _, n + 1, h => by
    have h : _ = [] := h
    subst h
    rfl
  | d :: ds, _, n + 1, h => by
    obtain ⟨u, r, rfl, h2, h3⟩ := h
    exact IsAll.drop n h3
theorem IsAll.take : ∀ {ds : List D} {us : List V} (n : Nat), IsAll o H ds us → IsAll o H (ds.take n) (us.take n)
  | _, _, 0, h => rfl
  | [], _, n + 1, h => by
    have h : _ = [] := h
    subst h
    rfl
  | d :: ds, _, n + 1, h => by
    obtain ⟨u, r, rfl, h2, h3⟩ := h
    exact ⟨u, _, rfl, h2, IsAll.take n h3⟩
theorem IsAll.ints : ∀ {xs : List Int} {us : List V}, IsAll o H (xs.map D.int) us → us = xs.map V.int
  | [], _, h => h
  | x :: xs, _, h => by
    obtain ⟨u, r, rfl, h2, h3⟩ := h
    have h2 : u = .int x := h2
    rw [h2, IsAll.ints h3] <;> rfl
theorem IsAll.ofInts : ∀ (xs : List Int), IsAll o H (xs.map D.int) (xs.map V.int)
  | [] => rfl
  | x :: xs => ⟨_, _, rfl, rfl, IsAll.ofInts xs⟩
end

/-! ### modes, slots -/
/-- o: the objects that no data speaks of; J: what is known of them -/
structure Md where
  o : List Addr
  J : Hp → Prop
  jx : ∀ H H', Ex H H' → J H → J H'
  jl : ∀ H, J H → ∀ a ∈ o, ∃ x, H a = some x

inductive Ent where
  | no | im (d : D) | raw (v : V)
def EntOk (o : List Addr) (H : Hp) : Ent → Option V → Prop
  | .no, _ => True
  | .im d, x => ∃ v, x = some v ∧ Is o H d v
  | .raw v, x => x = some v
theorem EntOk.map {o o' : List Addr} {H H' : Hp} (e : ∀ a x, a ∉ o → H a = some x → a ∉ o' ∧ H' a = some x) : ∀ {t : Ent} {x : Option V}, EntOk o H t x → EntOk o' H' t x
  | .no, _, _ => trivial
  | .im _, _, ⟨v, h, i⟩ => ⟨v, h, i.map e⟩
  | .raw _, _, h => h

structure Sl (m : Md) (σ : L2.St) (H : Hp) (ds : List Ent) : Prop where
  len : σ.length = ds.length
  sl : ∀ (i : Nat) (e : Ent), ds[i]? = some e → ∃ x, σ[i]? = some x ∧ EntOk m.o H e x
  j : m.J H
/-- with a base b: what stood there stands -/
structure Env (m : Md) (b : Hp) (σ : L2.St) (H : Hp) (ds : List Ent) : Prop where
  s : Sl m σ H ds
  x : Xv m.o b H
section
variable {m : Md} {b H H' : Hp} {σ : L2.St} {ds : List Ent}
theorem Sl.step (E : Sl m σ H ds) (x : Xv m.o H H') (j : m.J H') : Sl m σ H' ds := ⟨E.len, fun i e h => by
  obtain ⟨v, h1, h2⟩ := E.sl i e h
  exact ⟨v, h1, h2.map fun a y n q => ⟨n, x a y n q⟩⟩, j⟩
theorem Sl.ex (E : Sl m σ H ds) (x : Ex H H') : Sl m σ H' ds := E.step x.v (m.jx _ _ x E.j)
theorem Env.step (E : Env m b σ H ds) (x : Xv m.o H H') (j : m.J H') : Env m b σ H' ds := ⟨E.s.step x j, E.x.trans x⟩
theorem Sl.env (E : Sl m σ H ds) : Env m H σ H ds := ⟨E, Xv.refl _ _⟩
theorem Env.live (E : Env m b σ H ds) : ∀ a ∈ m.o, ∃ x, H a = some x := m.jl H E.s.j
theorem Sl.live (E : Sl m σ H ds) : ∀ a ∈ m.o, ∃ x, H a = some x := m.jl H E.j
theorem nin {o : List Addr} (l : ∀ a ∈ o, ∃ x, H a = some x) {p : Addr} (h : H p = none) : p ∉ o := fun z => by
  obtain ⟨x, e⟩ := l p z
  rw [h] at e
  cases e
theorem Sl.set {i : Nat} {x : Option V} {e : Ent} (E : Sl m σ H ds) (h : EntOk m.o H e x) : Sl m (σ.set i x) H (ds.set i e) := by
  refine ⟨by rw [List.length_set, List.length_set, E.len], fun j t ht => ?_, E.j⟩
  by_cases hij : i = j
  · subst hij
    by_cases hl : i < ds.length
    · rw [List.getElem?_set_self hl] at ht
      cases ht
      exact ⟨x, List.getElem?_set_self (by rw [E.len]; exact hl), h⟩
    · rw [List.getElem?_eq_none (by rw [List.length_set]; omega)] at ht
      cases ht
  · rw [List.getElem?_set_ne hij] at ht
    rw [List.getElem?_set_ne hij]
    exact E.sl j t ht
theorem Env.set {i : Nat} {x : Option V} {e : Ent} (E : Env m b σ H ds) (h : EntOk m.o H e x) : Env m b (σ.set i x) H (ds.set i e) := ⟨E.s.set h, E.x⟩
/-- what is forgotten -/
def wE (ds : List Ent) : List Nat → List Ent
  | [] => ds
  | v :: vs => (wE ds vs).set v .no
theorem Sl.wipe (E : Sl m σ H ds) : ∀ vs : List Nat, Sl m (wipe σ vs) H (wE ds vs)
  | [] => E
  | v :: vs => (Sl.wipe E vs).set trivial
theorem Env.wipe (E : Env m b σ H ds) (vs : List Nat) : Env m b (wipe σ vs) H (wE ds vs) := ⟨E.s.wipe vs, E.x⟩
/-- less is known -/
theorem Sl.sub {ds' : List Ent} (E : Sl m σ H ds) (hl : ds'.length = ds.length) (h : ∀ (i : Nat) (e : Ent), ds'[i]? = some e → e = .no ∨ ds[i]? = some e) : Sl m σ H ds' := by
  refine ⟨by rw [E.len, hl], fun i e he => ?_, E.j⟩
  rcases h i e he with z | z
  · subst z
    have hi : i < σ.length := by
      rw [E.len, ← hl]
      exact (List.getElem?_eq_some_iff.mp he).1
    exact ⟨σ[i], List.getElem?_eq_getElem hi, trivial⟩
  · exact E.sl i e z
/-- the entries of ds' are those of ds, or nothing -/
def Le : List Ent → List Ent → Prop
  | [], [] => True
  | e :: es, t :: ts => (e = .no ∨ e = t) ∧ Le es ts
  | _, _ => False
theorem Le.get : ∀ {es ts : List Ent}, Le es ts → es.length = ts.length ∧ ∀ (i : Nat) (e : Ent), es[i]? = some e → e = .no ∨ ts[i]? = some e
  | [], [], _ => ⟨rfl, fun i e h => by simp at h⟩
  | [], _ :: _, h => False.elim h
  | _ :: _, [], h => False.elim h
  | e :: es, t :: ts, ⟨h1, h2⟩ => by
    obtain ⟨a, b⟩ := Le.get h2
    refine ⟨by simp [a], fun i x hx => ?_⟩
    cases i with
    | zero =>
      have hx : some e = some x := by simpa using hx
      cases hx
      rcases h1 with z | z
      · exact .inl z
      · subst z
        exact .inr (by simp)
    | succ i =>
      have := b i x (by simpa using hx)
      simpa using this
theorem Env.le {ds' : List Ent} (E : Env m b σ H ds) (h : Le ds' ds) : Env m b σ H ds' := ⟨E.s.sub h.get.1 h.get.2, E.x⟩
theorem Env.rebase (E : Env m b σ H ds) : Env m H σ H ds := E.s.env
end

/-! ### what expressions give -/
def GX (m : Md) (te : TE) (ds : List Ent) (P : D → Prop) : Prop := ∀ σ H, Sl m σ H ds → ∀ Q : VK, (∀ d v H2, P d → Xv m.o H H2 → m.J H2 → Is m.o H2 d v → Q v H2) → te σ H Q
def G (m : Md) (te : TE) (ds : List Ent) (d : D) : Prop := ∀ σ H, Sl m σ H ds → ∀ Q : VK, (∀ v H2, Xv m.o H H2 → m.J H2 → Is m.o H2 d v → Q v H2) → te σ H Q
def GTX (m : Md) (tt : TT) (ds : List Ent) (P : Bool → Prop) : Prop := ∀ σ H, Sl m σ H ds → ∀ Q : Bool → Hp → Prop, (∀ c H2, P c → Xv m.o H H2 → m.J H2 → Q c H2) → tt σ H Q
def GT (m : Md) (tt : TT) (ds : List Ent) (c : Bool) : Prop := ∀ σ H, Sl m σ H ds → ∀ Q : Bool → Hp → Prop, (∀ H2, Xv m.o H H2 → m.J H2 → Q c H2) → tt σ H Q
def GA (m : Md) (ta : TA) (ds : List Ent) (as : List D) : Prop := ∀ σ H, Sl m σ H ds → ∀ Q : List V → Hp → Prop, (∀ vs H2, Xv m.o H H2 → m.J H2 → IsAll m.o H2 as vs → Q vs H2) → ta σ H Q
def GO (m : Md) (to : TO) (ds : List Ent) (x : Option Int) : Prop := ∀ σ H, Sl m σ H ds → ∀ Q : Option Int → Hp → Prop, (∀ H2, Xv m.o H H2 → m.J H2 → Q x H2) → to σ H Q
/-- operations on values -/
def O2 (r : R2) (d1 d2 d3 : D) : Prop := ∀ (o : List Addr) (H : Hp) (x y : V), (∀ a ∈ o, ∃ z, H a = some z) → Is o H d1 x → Is o H d2 y → ∀ Q : VK, (∀ v H2, Ex H H2 → Is o H2 d3 v → Q v H2) → r x y H Q
def O1 (r : V → Hp → VK → Prop) (d1 d3 : D) : Prop := ∀ (o : List Addr) (H : Hp) (x : V), (∀ a ∈ o, ∃ z, H a = some z) → Is o H d1 x → ∀ Q : VK, (∀ v H2, Ex H H2 → Is o H2 d3 v → Q v H2) → r x H Q
def ON (r : List V → Hp → VK → Prop) (as : List D) (d3 : D) : Prop := ∀ (o : List Addr) (H : Hp) (vs : List V), (∀ a ∈ o, ∃ z, H a = some z) → IsAll o H as vs → ∀ Q : VK, (∀ v H2, Ex H H2 → Is o H2 d3 v → Q v H2) → r vs H Q

section
variable {m : Md} {ds : List Ent} {ta tb te tx : TE} {t u : TT} {d d1 d2 d3 : D} {r : R2}
theorem G.x (h : G m te ds d) : GX m te ds (fun d' => d' = d) := fun σ H E Q q => h σ H E Q fun v H2 a b c => q d v H2 rfl a b c
theorem GX.imp {P P' : D → Prop} (h : GX m te ds P) (i : ∀ d, P d → P' d) : GX m te ds P' := fun σ H E Q q => h σ H E Q fun d v H2 p a b c => q d v H2 (i d p) a b c
theorem G.is (h : G m te ds d1) (e : d1 = d2) : G m te ds d2 := by
  rw [← e]
  exact h
theorem GT.is {a b : Bool} (h : GT m t ds a) (e : a = b) : GT m t ds b := by
  rw [← e]
  exact h
theorem GT.x {c : Bool} (h : GT m t ds c) : GTX m t ds (fun c' => c' = c) := fun σ H E Q q => h σ H E Q fun H2 a b => q c H2 rfl a b
theorem g_var {i : Nat} (h : ds[i]? = some (.im d)) : G m (tVar i) ds d := fun σ H E Q q => by
  obtain ⟨x, e, v, rfl, hv⟩ := E.sl i _ h
  exact ⟨v, e, q v H (Xv.refl _ _) E.j hv⟩
theorem g_int {i : Int} : G m (tC (.int i)) ds (.int i) := fun σ H E Q q => q _ H (Xv.refl _ _) E.j rfl
theorem g_bl {i : Bool} : G m (tC (.bl i)) ds (.bl i) := fun σ H E Q q => q _ H (Xv.refl _ _) E.j rfl
theorem g_non : G m (tC .non) ds .non := fun σ H E Q q => q _ H (Xv.refl _ _) E.j rfl
theorem g_ty {n : String} : G m (tC (.ty n)) ds (.ty n) := fun σ H E Q q => q _ H (Xv.refl _ _) E.j rfl
theorem g_op (ha : G m ta ds d1) (hb : G m tb ds d2) (hr : O2 r d1 d2 d3) : G m (tOp r ta tb) ds d3 := fun σ H E Q q =>
  ha σ H E _ fun x H1 x1 j1 i1 => hb σ H1 (E.step x1 j1) _ fun y H2 x2 j2 i2 => hr m.o H2 x y (m.jl _ j2) (i1.mono x2) i2 Q fun v H3 x3 i3 => q v H3 ((x1.trans x2).trans x3.v) (m.jx _ _ x3 j2) i3
theorem gx_op {P P' : D → Prop} (ha : GX m ta ds P) (hb : G m tb ds d2) (hr : ∀ d, P d → ∃ d', P' d' ∧ O2 r d d2 d') : GX m (tOp r ta tb) ds P' := fun σ H E Q q =>
  ha σ H E _ fun d x H1 hp x1 j1 i1 => hb σ H1 (E.step x1 j1) _ fun y H2 x2 j2 i2 => by
    obtain ⟨d', hp', h⟩ := hr d hp
    exact h m.o H2 x y (m.jl _ j2) (i1.mono x2) i2 Q fun v H3 x3 i3 => q d' v H3 hp' ((x1.trans x2).trans x3.v) (m.jx _ _ x3 j2) i3
/-- the second operand open -/
theorem gx_op2 {P P' : D → Prop} (ha : G m ta ds d1) (hb : GX m tb ds P) (hr : ∀ d, P d → ∃ d', P' d' ∧ O2 r d1 d d') : GX m (tOp r ta tb) ds P' := fun σ H E Q q =>
  ha σ H E _ fun x H1 x1 j1 i1 => hb σ H1 (E.step x1 j1) _ fun d y H2 hp x2 j2 i2 => by
    obtain ⟨d', hp', h⟩ := hr d hp
    exact h m.o H2 x y (m.jl _ j2) (i1.mono x2) i2 Q fun v H3 x3 i3 => q d' v H3 hp' ((x1.trans x2).trans x3.v) (m.jx _ _ x3 j2) i3
theorem g_un {r : V → Hp → VK → Prop} (ha : G m ta ds d1) (hr : O1 r d1 d3) : G m (tUn r ta) ds d3 := fun σ H E Q q =>
  ha σ H E _ fun x H1 x1 j1 i1 => hr m.o H1 x (m.jl _ j1) i1 Q fun v H3 x3 i3 => q v H3 (x1.trans x3.v) (m.jx _ _ x3 j1) i3
theorem ga_nil : GA m tNil ds [] := fun σ H E Q q => q [] H (Xv.refl _ _) E.j rfl
theorem ga_cons {tr : TA} {as : List D} (ha : G m ta ds d) (hr : GA m tr ds as) : GA m (tCons ta tr) ds (d :: as) := fun σ H E Q q =>
  ha σ H E _ fun x H1 x1 j1 i1 => hr σ H1 (E.step x1 j1) _ fun xs H2 x2 j2 i2 => q (x :: xs) H2 (x1.trans x2) j2 ⟨x, xs, rfl, i1.mono x2, i2⟩
theorem g_cb {r : List V → Hp → VK → Prop} {tr : TA} {as : List D} (ha : GA m tr ds as) (hr : ON r as d) : G m (tCB r tr) ds d := fun σ H E Q q =>
  ha σ H E _ fun xs H1 x1 j1 i1 => hr m.o H1 xs (m.jl _ j1) i1 Q fun v H3 x3 i3 => q v H3 (x1.trans x3.v) (m.jx _ _ x3 j1) i3
theorem g_tup {tr : TA} {as : List D} (ha : GA m tr ds as) (hz : as.length ≤ 100000) : G m (tTup tr) ds (.tup as) := fun σ H E Q q =>
  ha σ H E _ fun xs H1 x1 j1 i1 => ⟨by rw [i1.len]; exact Nat.le_trans hz (by decide), fun p hp => q _ _ (x1.trans (Ex.new hp).v) (m.jx _ _ (Ex.new hp) j1) ⟨p, xs, rfl, nin (m.jl _ j1) hp, upd_same, i1.mono (Ex.new hp).v⟩⟩
theorem g_lst {tr : TA} {as : List D} (ha : GA m tr ds as) (hz : as.length ≤ 100000) : G m (tLst tr) ds (.lst as) := fun σ H E Q q =>
  ha σ H E _ fun xs H1 x1 j1 i1 => ⟨by rw [i1.len]; exact Nat.le_trans hz (by decide), fun p hp => q _ _ (x1.trans (Ex.new hp).v) (m.jx _ _ (Ex.new hp) j1) ⟨p, xs, rfl, nin (m.jl _ j1) hp, upd_same, i1.mono (Ex.new hp).v⟩⟩
/-! tests -/
theorem gt_test {c : Bool} (h : G m te ds (.bl c)) : GT m (tTest te) ds c := fun σ H E Q q => h σ H E _ fun v H2 x j i => ⟨c, i, q H2 x j⟩
theorem gt_B {c : Bool} (h : G m te ds (.bl c)) : GT m (tB te) ds c := fun σ H E Q q => h σ H E _ fun v H2 x j i => ⟨c, i, q H2 x j⟩
theorem gt_not {c : Bool} (h : GT m t ds c) : GT m (tNot t) ds (!c) := fun σ H E Q q => h σ H E _ fun H2 x j => q H2 x j
theorem gt_and {a c : Bool} (h : GT m t ds a) (h2 : a = true → GT m u ds c) : GT m (tAnd t u) ds (a && c) := fun σ H E Q q => h σ H E _ fun H2 x j => by
  cases a with
  | true =>
    show u σ H2 Q
    exact h2 rfl σ H2 (E.step x j) Q fun H3 x3 j3 => q H3 (x.trans x3) j3
  | false => exact q H2 x j
theorem gt_or {a c : Bool} (h : GT m t ds a) (h2 : a = false → GT m u ds c) : GT m (tOr t u) ds (a || c) := fun σ H E Q q => h σ H E _ fun H2 x j => by
  cases a with
  | true => exact q H2 x j
  | false =>
    show u σ H2 Q
    exact h2 rfl σ H2 (E.step x j) Q fun H3 x3 j3 => q H3 (x.trans x3) j3
theorem g_andV {a c : Bool} (h : G m ta ds (.bl a)) (h2 : a = true → G m tb ds (.bl c)) : G m (tAndV ta tb) ds (.bl (a && c)) := fun σ H E Q q => h σ H E _ fun v H2 x j i => ⟨a, i, by
  cases a with
  | true =>
    show tb σ H2 Q
    exact h2 rfl σ H2 (E.step x j) Q fun v3 H3 x3 j3 i3 => q v3 H3 (x.trans x3) j3 i3
  | false =>
    show Q (.bl false) H2
    exact q _ H2 x j rfl⟩
theorem g_orV {a c : Bool} (h : G m ta ds (.bl a)) (h2 : a = false → G m tb ds (.bl c)) : G m (tOrV ta tb) ds (.bl (a || c)) := fun σ H E Q q => h σ H E _ fun v H2 x j i => ⟨a, i, by
  cases a with
  | true =>
    show Q (.bl true) H2
    exact q _ H2 x j rfl
  | false =>
    show tb σ H2 Q
    exact h2 rfl σ H2 (E.step x j) Q fun v3 H3 x3 j3 i3 => q v3 H3 (x.trans x3) j3 i3⟩
theorem g_notV {a : Bool} (h : G m ta ds (.bl a)) : G m (tNotV ta) ds (.bl (!a)) := fun σ H E Q q => h σ H E _ fun v H2 x j i => ⟨a, i, q _ H2 x j rfl⟩
theorem g_if {c : Bool} (h : GT m t ds c) (h1 : c = true → G m ta ds d) (h2 : c = false → G m tb ds d) : G m (tIf t ta tb) ds d := fun σ H E Q q => h σ H E _ fun H2 x j => by
  cases c with
  | true =>
    show ta σ H2 Q
    exact h1 rfl σ H2 (E.step x j) Q fun v3 H3 x3 j3 i3 => q v3 H3 (x.trans x3) j3 i3
  | false =>
    show tb σ H2 Q
    exact h2 rfl σ H2 (E.step x j) Q fun v3 H3 x3 j3 i3 => q v3 H3 (x.trans x3) j3 i3
theorem g_chain {r' : R2} {tc : TE} {d3 : D} {a c : Bool} (ha : G m ta ds d1) (hb : G m tb ds d2) (hc : a = true → G m tc ds d3) (hr : O2 r d1 d2 (.bl a)) (hr' : O2 r' d2 d3 (.bl c)) : G m (tChain r r' ta tb tc) ds (.bl (a && c)) := fun σ H E Q q =>
  ha σ H E _ fun x H1 x1 j1 i1 => hb σ H1 (E.step x1 j1) _ fun y H2 x2 j2 i2 => hr m.o H2 x y (m.jl _ j2) (i1.mono x2) i2 _ fun z H3 x3 i3 => ⟨a, i3, by
    have j3 := m.jx _ _ x3 j2
    have x13 := (x1.trans x2).trans x3.v
    cases a with
    | true =>
      show tc σ H3 _
      exact hc rfl σ H3 (E.step x13 j3) _ fun w H4 x4 j4 i4 => hr' m.o H4 y w (m.jl _ j4) (i2.mono (x3.v.trans x4)) i4 Q fun v H5 x5 i5 => q v H5 ((x13.trans x4).trans x5.v) (m.jx _ _ x5 j4) i5
    | false =>
      show Q (.bl false) H3
      exact q _ H3 x13 j3 rfl⟩
/-! slices -/
theorem go_none : GO m tNoPart ds none := fun σ H E Q q => q H (Xv.refl _ _) E.j
theorem go_some {i : Int} (h : G m te ds (.int i)) : GO m (tPart te) ds (some i) := fun σ H E Q q => h σ H E _ fun v H2 x j e => ⟨i, e, q H2 x j⟩
def OS (r : V → Option Int → Option Int → Hp → VK → Prop) (d1 : D) (lo hi : Option Int) (d3 : D) : Prop := ∀ (o : List Addr) (H : Hp) (x : V), (∀ a ∈ o, ∃ z, H a = some z) → Is o H d1 x → ∀ Q : VK, (∀ v H2, Ex H H2 → Is o H2 d3 v → Q v H2) → r x lo hi H Q
theorem g_slice {r : V → Option Int → Option Int → Hp → VK → Prop} {tl th : TO} {lo hi : Option Int} (h : G m te ds d1) (hl : GO m tl ds lo) (hh : GO m th ds hi) (hr : OS r d1 lo hi d3) : G m (tSl r te tl th) ds d3 := fun σ H E Q q =>
  h σ H E _ fun x H1 x1 j1 i1 => hl σ H1 (E.step x1 j1) _ fun H2 x2 j2 => hh σ H2 (E.step (x1.trans x2) j2) _ fun H3 x3 j3 => hr m.o H3 x (m.jl _ j3) (i1.mono (x2.trans x3)) Q fun v H4 x4 i4 => q v H4 (((x1.trans x2).trans x3).trans x4.v) (m.jx _ _ x4 j3) i4
end
end Lk
set_option Elab.async false
set_option linter.all false
set_option maxRecDepth 100000
set_option maxHeartbeats 4000000
namespace Lk
open PySem PySem.Spec PyProof.Rows L2
open Evl (Ex)

theorem szl {n : Nat} (h : n ≤ 100000) : n ≤ sizeLine := Nat.le_trans h (by decide)
theorem szlt {n : Nat} (h : n < 100000) : n < sizeLine := Nat.lt_of_lt_of_le h (by decide)

/-! ### t * 1 -/
section
theorem tuple_mul1 (l : Addr) (items : Array Value) (n : Nat) (dd : Option Addr) (sl : Array (Option Value)) (u : Tok) :
    Meets (Builtin.«tuple.__mul__» ⟨[.ref l, .int 1 u], []⟩) (fun _ R s => s.heap.get? l = some { cls := .type "tuple", dict := dd, data := .seq items n, slots := sl } ∧ R (.ok (.ret (Value.ref l))) s) :=
  .of_wp fun prog w A R s h => by
    obtain ⟨hp, g, d, tk, os⟩ := s
    obtain ⟨hl, h⟩ := h
    have f1 := AutoSeq1.idx_int
    have e1 : (items.isEmpty || (1 : Int) == 1) = true := by simp
    wp_walk using wpAny_loadPart' hl
    repeat (first
      | (refine wpAny_ite_false (by decide) ?_; wp_walk using wpAny_loadPart' hl)
      | (refine wpAny_ite_true (by rw [e1] <;> decide) ?_; wp_walk using wpAny_loadPart' hl)
      | (with_reducible refine wpAny_ite_true (by decide) ?_; wp_walk using wpAny_loadPart' hl))
    exact ⟨_, rfl, h⟩
def rRep1 (K : PySem.W.Frag) : R2 := fun x y H Q => ∃ l xs, x = .ref l ∧ y = .int 1 ∧ SqT K H l xs ∧ Q (.ref l) H
variable {X : Cx}
theorem op_rep1 : OpR X (binaryOp .Mult) (rRep1 X.K) := by
  intro pins s σ H x y v u Q I rx ry h
  obtain ⟨l, xs, rfl, rfl, hT, q⟩ := h
  cases rx
  obtain ⟨t, rfl⟩ := ry
  obtain ⟨its, r, ⟨⟨cls, dd, data, sl⟩, ho, hc, n, hd⟩, hs⟩ := I.tuple hT
  simp only at hc hd
  subst hc hd
  refine wpAny_binaryOp_repeat_ref (T := "tuple") (U := "int") (by decide) ⟨_, ho, rfl⟩ (fun s' => typeIs_int s' 1 t) noFill_tuple_mul F.fills_int_mul F.slot_int_rmul repeat_tuple F.slot_int_index.lookup
    (call_meets F.slot_int_rmul (typeIs_int s 1 t) F.entry_int_rmul (F.args_int_rmul_2 _ _) (int_rmul_tuple 1 t l its.toArray n dd sl)
      ⟨ho, rfl, ⟨_, ho, rfl⟩, call_meets F.slot_tuple_mul ⟨_, ho, rfl⟩ F.entry_tuple_mul (F.args_tuple_mul_2 _ _) (tuple_mul1 l its.toArray n dd sl t) ⟨ho, ?_⟩⟩)
  exact ⟨.ref l, H, I, rfl, q⟩
end

/-! ### +, *, - .. -/
def rPlus (K : PySem.W.Frag) : R2 := fun x y H Q => rI0 (fun i j => .int (i + j)) x y H Q ∨ rCat x y H Q ∨ rCatA K x y H Q
def rTimes (K : PySem.W.Frag) : R2 := fun x y H Q => rI CMul (fun i j => .int (i * j)) x y H Q ∨ rRepT K x y H Q ∨ rRep1 K x y H Q
def rFdiv : R2 := fun x y H Q => rI CDivN (fun i j => .int (i.fdiv j)) x y H Q ∨ rI CDivW (fun i j => .int (i / j)) x y H Q
def rEqA (K : PySem.W.Frag) : R2 := fun x y H Q => rEq x y H Q ∨ rEqD K x y H Q
def rNeA (K : PySem.W.Frag) : R2 := fun x y H Q => rNe x y H Q ∨ rNeD K x y H Q
section
variable {X : Cx} {K : PySem.W.Frag}
theorem op_plus : OpR X (binaryOp .Add) (rPlus X.K) := op_add.or (op_cat.or op_catA)
theorem op_times : OpR X (binaryOp .Mult) (rTimes X.K) := op_mul.or (op_repT.or op_rep1)
theorem op_fdivA : OpR X (binaryOp .FloorDiv) rFdiv := op_fdivN.or op_fdivW
theorem op_eqA (hu : X.A.units + 64 < cLine) : OpR X (compareOp .Eq) (rEqA X.K) := op_eq.or (op_eqD hu)
theorem op_neA (hu : X.A.units + 64 < cLine) : OpR X (compareOp .NotEq) (rNeA X.K) := op_ne.or (op_neD hu)

theorem o2_I0 {g : Int → Int → Int} {i j : Int} : O2 (rI0 fun i j => .int (g i j)) (.int i) (.int j) (.int (g i j)) := fun o H x y _ hx hy Q q => ⟨i, j, hx, hy, q _ H (Ex.refl _) rfl⟩
theorem o2_B0 {g : Int → Int → Bool} {i j : Int} : O2 (rI0 fun i j => .bl (g i j)) (.int i) (.int j) (.bl (g i j)) := fun o H x y _ hx hy Q q => ⟨i, j, hx, hy, q _ H (Ex.refl _) rfl⟩
theorem o2_I {C : Int → Int → Prop} {g : Int → Int → Int} {i j : Int} (c : C i j) : O2 (rI C fun i j => .int (g i j)) (.int i) (.int j) (.int (g i j)) := fun o H x y _ hx hy Q q => ⟨i, j, hx, hy, c, q _ H (Ex.refl _) rfl⟩
theorem o2_sub {i j : Int} : O2 (rI0 fun i j => .int (i - j)) (.int i) (.int j) (.int (i - j)) := o2_I0
theorem o2_lt {i j : Int} : O2 (rI0 fun i j => .bl (decide (i < j))) (.int i) (.int j) (.bl (decide (i < j))) := o2_B0 (g := fun i j => decide (i < j))
theorem o2_le {i j : Int} : O2 (rI0 fun i j => .bl (decide (i ≤ j))) (.int i) (.int j) (.bl (decide (i ≤ j))) := o2_B0 (g := fun i j => decide (i ≤ j))
theorem o2_gt {i j : Int} : O2 (rI0 fun i j => .bl (decide (j < i))) (.int i) (.int j) (.bl (decide (j < i))) := o2_B0 (g := fun i j => decide (j < i))
theorem o2_ge {i j : Int} : O2 (rI0 fun i j => .bl (decide (j ≤ i))) (.int i) (.int j) (.bl (decide (j ≤ i))) := o2_B0 (g := fun i j => decide (j ≤ i))
theorem o2_mod {i j : Int} (h : j ≠ 0) : O2 (rI (fun _ j => j ≠ 0) fun i j => .int (i.fmod j)) (.int i) (.int j) (.int (i.fmod j)) := o2_I h
theorem o2_or {r r' : R2} {d1 d2 d3 : D} (h : O2 r d1 d2 d3) : O2 (fun x y H Q => r x y H Q ∨ r' x y H Q) d1 d2 d3 := fun o H x y l hx hy Q q => .inl (h o H x y l hx hy Q q)
theorem o2_or' {r r' : R2} {d1 d2 d3 : D} (h : O2 r' d1 d2 d3) : O2 (fun x y H Q => r x y H Q ∨ r' x y H Q) d1 d2 d3 := fun o H x y l hx hy Q q => .inr (h o H x y l hx hy Q q)
theorem o2_addI {i j : Int} : O2 (rPlus K) (.int i) (.int j) (.int (i + j)) := o2_or o2_I0
theorem o2_addL {xs ys : List D} (hz : xs.length + ys.length ≤ 100000) : O2 (rPlus K) (.lst xs) (.lst ys) (.lst (xs ++ ys)) := fun o H x y l hx hy Q q => by
  obtain ⟨p, us, rfl, n1, h1, a1⟩ := hx
  obtain ⟨p2, ws, rfl, n2, h2, a2⟩ := hy
  refine .inr (.inl ⟨p, p2, us, ws, rfl, rfl, h1, h2, szl (by rw [a1.len, a2.len]; exact hz), fun t ht => ?_⟩)
  exact q _ _ (Ex.new ht) ⟨t, _, rfl, nin l ht, upd_same, (a1.append a2).mono (Ex.new ht).v⟩
theorem o2_addT {xs ys : List D} (hz : xs.length + ys.length ≤ 100000) : O2 (rPlus K) (.tup xs) (.tup ys) (.tup (xs ++ ys)) := fun o H x y l hx hy Q q => by
  obtain ⟨p, us, rfl, n1, h1, a1⟩ := hx
  obtain ⟨p2, ws, rfl, n2, h2, a2⟩ := hy
  refine .inr (.inr ⟨p, p2, us, ws, rfl, rfl, SqT.of h1, SqT.of h2, szl (by rw [a1.len, a2.len]; exact hz), fun e => ?_, fun _ e => ?_, fun _ _ t ht => ?_⟩)
  · subst e
    have e2 := a1.len
    have e3 : xs = [] := List.eq_nil_of_length_eq_zero e2.symm
    subst e3
    exact q _ _ (Ex.refl _) ⟨p2, ws, rfl, n2, h2, a2⟩
  · subst e
    have e2 := a2.len
    have e3 : ys = [] := List.eq_nil_of_length_eq_zero e2.symm
    subst e3
    rw [List.append_nil] at q
    exact q _ _ (Ex.refl _) ⟨p, us, rfl, n1, h1, a1⟩
  · exact q _ _ (Ex.new ht) ⟨t, _, rfl, nin l ht, upd_same, (a1.append a2).mono (Ex.new ht).v⟩
theorem o2_mul {i j : Int} (h : CMul i j) : O2 (rTimes K) (.int i) (.int j) (.int (i * j)) := o2_or (o2_I h)
theorem IsAll.rep {o : List Addr} {H : Hp} {xs : List D} {us : List V} (a : IsAll o H xs us) : ∀ n : Nat, IsAll o H (List.replicate n xs).flatten (List.replicate n us).flatten
  | 0 => rfl
  | n + 1 => by
    rw [List.replicate_succ, List.replicate_succ, List.flatten_cons, List.flatten_cons]
    exact a.append (IsAll.rep a n)
theorem o2_rep {d : D} {k : Int} (h1 : 1 ≤ k) (h2 : k ≤ 1000) : O2 (rTimes K) (.tup [d]) (.int k) (.tup (List.replicate k.toNat d)) := fun o H x y l hx hy Q q => by
  obtain ⟨p, us, rfl, n1, e1, a1⟩ := hx
  have hy : y = .int k := hy
  subst hy
  have e0 : ∀ n : Nat, (List.replicate n [d]).flatten = List.replicate n d := fun n => by
    induction n with
    | zero => rfl
    | succ n ih => rw [List.replicate_succ, List.flatten_cons, ih, List.replicate_succ] <;> rfl
  by_cases hk : k = 1
  · subst hk
    exact .inr (.inr ⟨p, us, rfl, rfl, SqT.of e1, q _ _ (Ex.refl _) ⟨p, us, rfl, n1, e1, a1⟩⟩)
  · refine .inr (.inl ⟨p, k, us, rfl, rfl, SqT.of e1, fun z => ?_, by omega, h2, ?_, fun t ht => ?_⟩)
    · have := a1.len
      rw [z] at this
      simp at this
    · have := a1.len
      simp at this
      omega
    · refine q _ _ (Ex.new ht) ⟨t, _, rfl, nin l ht, upd_same, ?_⟩
      have z := (a1.rep k.toNat).mono (Ex.new (o := .tup (List.replicate k.toNat us).flatten) ht).v
      rw [e0] at z
      exact z
theorem o2_fdiv {i j : Int} (h : j ≠ 0) (h2 : j.natAbs < 1073741824) : O2 rFdiv (.int i) (.int j) (.int (i.fdiv j)) := o2_or (o2_I (C := CDivN) ⟨h, h2⟩)
theorem o1_neg {i : Int} : O1 (rU fun i => .int (-i)) (.int i) (.int (-i)) := fun o H x _ hx Q q => ⟨i, hx, q _ H (Ex.refl _) rfl⟩

/-! ### == -/
theorem o2_eqI {i j : Int} : O2 (rEqA K) (.int i) (.int j) (.bl (i == j)) := fun o H x y _ hx hy Q q => by
  have hx : x = .int i := hx
  have hy : y = .int j := hy
  subst hx hy
  exact .inl ⟨rfl, by rw [dec_int]; exact q _ H (Ex.refl _) rfl⟩
theorem o2_eqB {i j : Bool} : O2 (rEqA K) (.bl i) (.bl j) (.bl (i == j)) := fun o H x y _ hx hy Q q => by
  have hx : x = .bl i := hx
  have hy : y = .bl j := hy
  subst hx hy
  exact .inl ⟨rfl, by rw [dec_bl]; exact q _ H (Ex.refl _) rfl⟩
theorem o2_neI {i j : Int} : O2 (rNeA K) (.int i) (.int j) (.bl (!(i == j))) := fun o H x y _ hx hy Q q => by
  have hx : x = .int i := hx
  have hy : y = .int j := hy
  subst hx hy
  exact .inl ⟨rfl, by rw [dec_int]; exact q _ H (Ex.refl _) rfl⟩
theorem o2_neB {i j : Bool} : O2 (rNeA K) (.bl i) (.bl j) (.bl (!(i == j))) := fun o H x y _ hx hy Q q => by
  have hx : x = .bl i := hx
  have hy : y = .bl j := hy
  subst hx hy
  exact .inl ⟨rfl, by rw [dec_bl]; exact q _ H (Ex.refl _) rfl⟩
theorem dpInts {H : Hp} : ∀ xs : List Int, DpAll K H (xs.map V.int) (xs.map PyData.int)
  | [] => .nil
  | x :: xs => .cons (.int x) (dpInts xs)
theorem lay_ints : ∀ xs : List Int, PyData.canLayAll0 (xs.map PyData.int) = true
  | [] => by simp [PyData.canLayAll0]
  | x :: xs => by
    have := lay_ints xs
    simp [PyData.canLayAll0, PyData.canLay0] at this ⊢
    exact this
theorem dep_ints : ∀ xs : List Int, PyData.depthAll (xs.map PyData.int) = 0
  | [] => by simp [PyData.depthAll]
  | x :: xs => by
    have := dep_ints xs
    simp [PyData.depthAll, PyData.depth, this]
theorem eqv_ints : ∀ xs ys : List Int, PyData.eqvAll (xs.map PyData.int) (ys.map PyData.int) = decide (xs = ys)
  | [], [] => by simp [PyData.eqvAll]
  | [], y :: ys => by simp [PyData.eqvAll]
  | x :: xs, [] => by simp [PyData.eqvAll]
  | x :: xs, y :: ys => by
    have := eqv_ints xs ys
    rw [List.map_cons, List.map_cons, PyData.eqvAll, this, PyData.eqv, Bool.eq_iff_iff]
    simp
theorem sh_l (xs : List Int) : SeqAt.shaped (.list (xs.map PyData.int)) = true := by
  unfold SeqAt.shaped
  rw [PyData.canLay0, PyData.depth, lay_ints, dep_ints] <;> rfl
theorem sh_t (xs : List Int) : SeqAt.shaped (.tuple (xs.map PyData.int)) = true := by
  unfold SeqAt.shaped
  rw [PyData.canLay0, PyData.depth, lay_ints, dep_ints] <;> rfl
abbrev tI (xs : List Int) : D := .tup (xs.map D.int)
abbrev lI (xs : List Int) : D := .lst (xs.map D.int)
theorem o2_eqL {xs ys : List Int} : O2 (rEqA K) (lI xs) (lI ys) (.bl (decide (xs = ys))) := fun o H x y _ hx hy Q q => by
  obtain ⟨p, us, rfl, n1, e1, a1⟩ := hx
  obtain ⟨p2, ws, rfl, n2, e2, a2⟩ := hy
  rw [a1.ints] at e1
  rw [a2.ints] at e2
  refine .inr ⟨_, _, .lst (SqL.of e1) (dpInts xs), .lst (SqL.of e2) (dpInts ys), sh_l xs, sh_l ys, ?_⟩
  rw [PyData.eqv, eqv_ints]
  exact q _ H (Ex.refl _) rfl
theorem o2_neL {xs ys : List Int} : O2 (rNeA K) (lI xs) (lI ys) (.bl (!decide (xs = ys))) := fun o H x y _ hx hy Q q => by
  obtain ⟨p, us, rfl, n1, e1, a1⟩ := hx
  obtain ⟨p2, ws, rfl, n2, e2, a2⟩ := hy
  rw [a1.ints] at e1
  rw [a2.ints] at e2
  refine .inr ⟨_, _, .lst (SqL.of e1) (dpInts xs), .lst (SqL.of e2) (dpInts ys), sh_l xs, sh_l ys, ?_⟩
  rw [PyData.eqv, eqv_ints]
  exact q _ H (Ex.refl _) rfl
theorem o2_neT {xs ys : List Int} : O2 (rNeA K) (tI xs) (tI ys) (.bl (!decide (xs = ys))) := fun o H x y _ hx hy Q q => by
  obtain ⟨p, us, rfl, n1, e1, a1⟩ := hx
  obtain ⟨p2, ws, rfl, n2, e2, a2⟩ := hy
  rw [a1.ints] at e1
  rw [a2.ints] at e2
  refine .inr ⟨_, _, .tup (SqT.of e1) (dpInts xs), .tup (SqT.of e2) (dpInts ys), sh_t xs, sh_t ys, ?_⟩
  rw [PyData.eqv, eqv_ints]
  exact q _ H (Ex.refl _) rfl
/-- x is None: of an int -/
theorem o2_isN {i : Int} : O2 (fun x y H Q => y = .non ∧ Q (.bl (decide (x = .non))) H) (.int i) .non (.bl false) := fun o H x y _ hx hy Q q => by
  have hx : x = .int i := hx
  subst hx
  exact ⟨hy, q _ H (Ex.refl _) rfl⟩
/-- k in a tuple of ints -/
theorem inV_ints (k : Int) : ∀ xs : List Int, inV (.int k) (xs.map V.int) = decide (k ∈ xs)
  | [] => by simp [inV]
  | x :: xs => by
    have := inV_ints k xs
    unfold inV at this ⊢
    rw [List.map_cons, List.any_cons, this, Bool.eq_iff_iff]
    simp [eqV]
    constructor <;> rintro (h | h) <;> simp [h]
theorem flat_ints : ∀ xs : List Int, (xs.map V.int).all flatV = true
  | [] => rfl
  | x :: xs => by
    rw [List.map_cons, List.all_cons, flat_ints xs] <;> rfl
theorem o2_in {k : Int} {xs : List Int} : O2 (rIn K false) (.int k) (tI xs) (.bl (decide (k ∈ xs))) := fun o H x y _ hx hy Q q => by
  obtain ⟨p2, ws, rfl, n2, e2, a2⟩ := hy
  rw [a2.ints] at e2
  have hx : x = .int k := hx
  subst hx
  refine ⟨p2, _, rfl, .inr (SqT.of e2), rfl, flat_ints xs, ?_⟩
  rw [inV_ints]
  exact q _ H (Ex.refl _) rfl
/-! ### items, slices -/
theorem o2_ixL {xs : List D} {i : Int} {d : D} (h0 : 0 ≤ i) (h : xs[i.toNat]? = some d) : O2 (rIx K) (.lst xs) (.int i) d := fun o H x y _ hx hy Q q => by
  obtain ⟨p, us, rfl, n1, e1, a1⟩ := hx
  obtain ⟨u, hu, iu⟩ := a1.get h
  have ha : atI us i = some u := by
    have := atI_nat hu
    rwa [show ((i.toNat : Nat) : Int) = i by omega] at this
  exact .inl ⟨p, us, i, u, rfl, hy, SqL.of e1, ha, q _ H (Ex.refl _) iu⟩
theorem o2_ixT {xs : List D} {i : Int} {d : D} (h0 : 0 ≤ i) (h : xs[i.toNat]? = some d) : O2 (rIx K) (.tup xs) (.int i) d := fun o H x y _ hx hy Q q => by
  obtain ⟨p, us, rfl, n1, e1, a1⟩ := hx
  obtain ⟨u, hu, iu⟩ := a1.get h
  have ha : atI us i = some u := by
    have := atI_nat hu
    rwa [show ((i.toNat : Nat) : Int) = i by omega] at this
  exact .inr (.inl ⟨p, us, i, u, rfl, hy, SqT.of e1, ha, q _ H (Ex.refl _) iu⟩)
def rSl (K : PySem.W.Frag) : V → Option Int → Option Int → Hp → VK → Prop := fun x lo hi H Q => rSlL K x lo hi H Q ∨ rSlA K x lo hi H Q
theorem sl_any : SlR X (rSl X.K) := sl_list.or sl_tupA
theorem sIx_lo {n : Nat} {i : Int} (h : 0 ≤ i) : HT.sIx n 0 (some i) = min i.toNat n := by
  have := HT.sIx_nat n 0 i.toNat
  rwa [show ((i.toNat : Nat) : Int) = i by omega] at this
theorem sIx_hi {n m : Nat} {i : Int} (h : 0 ≤ i) : HT.sIx n m (some i) = min i.toNat n := by
  have := HT.sIx_nat n m i.toNat
  rwa [show ((i.toNat : Nat) : Int) = i by omega] at this
theorem cut_to {us : List V} {i : Int} (h : 0 ≤ i) : cutV us none (some i) = us.take i.toNat := by
  unfold cutV
  rw [HT.sIx_none, sIx_hi h, List.drop_zero, Nat.sub_zero]
  by_cases hh : i.toNat ≤ us.length
  · rw [Nat.min_eq_left hh]
  · rw [Nat.min_eq_right (by omega), List.take_length, List.take_of_length_le (by omega)]
theorem cut_from {us : List V} {i : Int} (h : 0 ≤ i) : cutV us (some i) none = us.drop i.toNat := by
  unfold cutV
  rw [HT.sIx_none, sIx_hi h]
  by_cases hh : i.toNat ≤ us.length
  · rw [Nat.min_eq_left hh, List.take_of_length_le (by rw [List.length_drop]; omega)]
  · rw [Nat.min_eq_right (by omega), List.drop_length, List.drop_eq_nil_of_le (by omega), List.take_nil]
theorem os_toL {xs : List D} {i : Int} (h : 0 ≤ i) : OS (rSl K) (.lst xs) none (some i) (.lst (xs.take i.toNat)) := fun o H x l hx Q q => by
  obtain ⟨p, us, rfl, n1, e1, a1⟩ := hx
  refine .inl ⟨p, us, rfl, SqL.of e1, fun t ht => ?_⟩
  rw [cut_to h]
  exact q _ _ (Ex.new ht) ⟨t, _, rfl, nin l ht, upd_same, (a1.take _).mono (Ex.new ht).v⟩
theorem os_fromL {xs : List D} {i : Int} (h : 0 ≤ i) : OS (rSl K) (.lst xs) (some i) none (.lst (xs.drop i.toNat)) := fun o H x l hx Q q => by
  obtain ⟨p, us, rfl, n1, e1, a1⟩ := hx
  refine .inl ⟨p, us, rfl, SqL.of e1, fun t ht => ?_⟩
  rw [cut_from h]
  exact q _ _ (Ex.new ht) ⟨t, _, rfl, nin l ht, upd_same, (a1.drop _).mono (Ex.new ht).v⟩
theorem os_toT {xs : List D} {i : Int} (h : 0 ≤ i) : OS (rSl K) (.tup xs) none (some i) (.tup (xs.take i.toNat)) := fun o H x l hx Q q => by
  obtain ⟨p, us, rfl, n1, e1, a1⟩ := hx
  refine .inr ⟨p, us, rfl, SqT.of e1, fun hw => ?_, fun _ t ht => ?_⟩
  · have e2 : us.length ≤ i.toNat := by
      rw [sIx_hi h] at hw
      omega
    have e3 := a1.len
    rw [List.take_of_length_le (by omega)] at q
    exact q _ _ (Ex.refl _) ⟨p, us, rfl, n1, e1, a1⟩
  · rw [cut_to h]
    exact q _ _ (Ex.new ht) ⟨t, _, rfl, nin l ht, upd_same, (a1.take _).mono (Ex.new ht).v⟩
theorem os_fromT {xs : List D} {i : Int} (h : 0 ≤ i) : OS (rSl K) (.tup xs) (some i) none (.tup (xs.drop i.toNat)) := fun o H x l hx Q q => by
  obtain ⟨p, us, rfl, n1, e1, a1⟩ := hx
  refine .inr ⟨p, us, rfl, SqT.of e1, fun hw => ?_, fun _ t ht => ?_⟩
  · rw [sIx_hi h] at hw
    have e3 := a1.len
    have e2 : i.toNat = 0 ∨ us.length = 0 := by omega
    have e4 : xs.drop i.toNat = xs := by
      rcases e2 with z | z
      · rw [z] <;> rfl
      · rw [List.eq_nil_of_length_eq_zero (show xs.length = 0 by omega), List.drop_nil]
    rw [e4] at q
    exact q _ _ (Ex.refl _) ⟨p, us, rfl, n1, e1, a1⟩
  · rw [cut_from h]
    exact q _ _ (Ex.new ht) ⟨t, _, rfl, nin l ht, upd_same, (a1.drop _).mono (Ex.new ht).v⟩
/-! ### built-ins -/
theorem on_lenL {xs : List D} : ON (fun xs H Q => ∃ p ys, xs = [.ref p] ∧ (SqL K H p ys ∨ SqT K H p ys) ∧ Q (.int ys.length) H) [.lst xs] (.int (xs.length : Int)) := fun o H vs _ hv Q q => by
  obtain ⟨u, r, rfl, ⟨p, us, rfl, n1, e1, a1⟩, rfl⟩ := hv
  refine ⟨p, us, rfl, .inl (SqL.of e1), ?_⟩
  rw [a1.len]
  exact q _ H (Ex.refl _) rfl
theorem on_lenT {xs : List D} : ON (fun xs H Q => ∃ p ys, xs = [.ref p] ∧ (SqL K H p ys ∨ SqT K H p ys) ∧ Q (.int ys.length) H) [.tup xs] (.int (xs.length : Int)) := fun o H vs _ hv Q q => by
  obtain ⟨u, r, rfl, ⟨p, us, rfl, n1, e1, a1⟩, rfl⟩ := hv
  refine ⟨p, us, rfl, .inr (SqT.of e1), ?_⟩
  rw [a1.len]
  exact q _ H (Ex.refl _) rfl
theorem on_listL {xs : List D} : ON (fun xs H Q => ∃ p ys, xs = [.ref p] ∧ (SqL K H p ys ∨ SqT K H p ys) ∧ ∀ l, H l = none → Q (.ref l) (upd H l (.lst ys))) [.lst xs] (.lst xs) := fun o H vs l hv Q q => by
  obtain ⟨u, r, rfl, ⟨p, us, rfl, n1, e1, a1⟩, rfl⟩ := hv
  exact ⟨p, us, rfl, .inl (SqL.of e1), fun t ht => q _ _ (Ex.new ht) ⟨t, _, rfl, nin l ht, upd_same, a1.mono (Ex.new ht).v⟩⟩
theorem on_listT {xs : List D} : ON (fun xs H Q => ∃ p ys, xs = [.ref p] ∧ (SqL K H p ys ∨ SqT K H p ys) ∧ ∀ l, H l = none → Q (.ref l) (upd H l (.lst ys))) [.tup xs] (.lst xs) := fun o H vs l hv Q q => by
  obtain ⟨u, r, rfl, ⟨p, us, rfl, n1, e1, a1⟩, rfl⟩ := hv
  exact ⟨p, us, rfl, .inr (SqT.of e1), fun t ht => q _ _ (Ex.new ht) ⟨t, _, rfl, nin l ht, upd_same, a1.mono (Ex.new ht).v⟩⟩
theorem on_tupL {xs : List D} : ON (fun xs H Q => ∃ p ys, xs = [.ref p] ∧ ((SqL K H p ys ∧ ∀ l, H l = none → Q (.ref l) (upd H l (.tup ys))) ∨ (SqT K H p ys ∧ Q (.ref p) H))) [.lst xs] (.tup xs) := fun o H vs l hv Q q => by
  obtain ⟨u, r, rfl, ⟨p, us, rfl, n1, e1, a1⟩, rfl⟩ := hv
  exact ⟨p, us, rfl, .inl ⟨SqL.of e1, fun t ht => q _ _ (Ex.new ht) ⟨t, _, rfl, nin l ht, upd_same, a1.mono (Ex.new ht).v⟩⟩⟩
theorem on_tupT {xs : List D} : ON (fun xs H Q => ∃ p ys, xs = [.ref p] ∧ ((SqL K H p ys ∧ ∀ l, H l = none → Q (.ref l) (upd H l (.tup ys))) ∨ (SqT K H p ys ∧ Q (.ref p) H))) [.tup xs] (.tup xs) := fun o H vs l hv Q q => by
  obtain ⟨u, r, rfl, ⟨p, us, rfl, n1, e1, a1⟩, rfl⟩ := hv
  exact ⟨p, us, rfl, .inr ⟨SqT.of e1, q _ _ (Ex.refl _) ⟨p, us, rfl, n1, e1, a1⟩⟩⟩
theorem on_abs {i : Int} : ON (fun xs H Q => ∃ i, xs = [.int i] ∧ Q (.int (if i < 0 then -i else i)) H) [.int i] (.int (i.natAbs : Int)) := fun o H vs l hv Q q => by
  obtain ⟨u, r, rfl, rfl, rfl⟩ := hv
  refine ⟨i, rfl, q _ _ (Ex.refl _) ?_⟩
  show V.int _ = V.int _
  congr 1
  split <;> omega
theorem on_max {i j : Int} : ON (fun xs H Q => ∃ i j, xs = [.int i, .int j] ∧ Q (.int (if j > i then j else i)) H) [.int i, .int j] (.int (max i j)) := fun o H vs l hv Q q => by
  obtain ⟨u, r, rfl, rfl, u2, r2, rfl, rfl, rfl⟩ := hv
  refine ⟨i, j, rfl, q _ _ (Ex.refl _) ?_⟩
  show V.int _ = V.int _
  congr 1
  split <;> omega
theorem on_min {i j : Int} : ON (fun xs H Q => ∃ i j, xs = [.int i, .int j] ∧ Q (.int (if j < i then j else i)) H) [.int i, .int j] (.int (min i j)) := fun o H vs l hv Q q => by
  obtain ⟨u, r, rfl, rfl, u2, r2, rfl, rfl, rfl⟩ := hv
  refine ⟨i, j, rfl, q _ _ (Ex.refl _) ?_⟩
  show V.int _ = V.int _
  congr 1
  split <;> omega
theorem on_int {i : Int} : ON (fun xs H Q => (∃ i, xs = [.int i] ∧ Q (.int i) H) ∨ ∃ k, xs = [.bl k] ∧ Q (.int (if k then 1 else 0)) H) [.int i] (.int i) := fun o H vs l hv Q q => by
  obtain ⟨u, r, rfl, rfl, rfl⟩ := hv
  exact .inl ⟨i, rfl, q _ _ (Ex.refl _) rfl⟩
theorem on_sum {ns : List Int} : ON (rSum K) [lI ns] (.int ns.sum) := fun o H vs l hv Q q => by
  obtain ⟨u, r, rfl, ⟨p, us, rfl, n1, e1, a1⟩, rfl⟩ := hv
  rw [a1.ints] at e1
  exact ⟨p, ns, rfl, SqL.of e1, q _ _ (Ex.refl _) rfl⟩
/-! isinstance -/
def tyN : D → String
  | .int _ => "int" | .bl _ => "bool" | .non => "NoneType" | .ty _ => "type" | .tup _ => "tuple" | .lst _ => "list"
theorem tyx {o : List Addr} {H : Hp} {d : D} {v : V} (h : Is o H d v) (hd : ∀ n, d ≠ .ty n) : TyX K H v (.type (tyN d)) := by
  cases d with
  | int i => rw [show v = .int i from h]; exact .base (.int i)
  | bl i => rw [show v = .bl i from h]; exact .base (.bl i)
  | non => rw [show v = .non from h]; exact .base .non
  | ty n => exact absurd rfl (hd n)
  | tup xs =>
    obtain ⟨p, us, rfl, n1, e1, a1⟩ := h
    exact .base (.tup e1)
  | lst xs =>
    obtain ⟨p, us, rfl, n1, e1, a1⟩ := h
    exact .base (.lst e1)
def rIsiA (K : PySem.W.Frag) : List V → Hp → VK → Prop := fun xs H Q => rIsi K xs H Q ∨ rIsiT K xs H Q
theorem call_isiA : CallR X (.builtin "isinstance") (rIsiA X.K) := by
  intro pins s σ H xs us Q I r h
  rcases h with h | h
  · exact call_isi pins s σ H xs us Q I r h
  · exact call_isiT pins s σ H xs us Q I r h
theorem on_isi {d : D} {n : String} {c : Bool} (hd : ∀ n, d ≠ .ty n) (h : kitB (tyN d) n = some c) : ON (rIsiA K) [d, .ty n] (.bl c) := fun o H vs l hv Q q => by
  obtain ⟨u, r, rfl, h1, u2, r2, rfl, rfl, rfl⟩ := hv
  exact .inl ⟨u, .ty n, _, _, c, rfl, .ty _, tyx h1 hd, kit_ty h, q _ _ (Ex.refl _) rfl⟩
theorem on_isiT {d : D} {n n2 : String} {c c2 : Bool} (hd : ∀ n, d ≠ .ty n) (h : kitB (tyN d) n = some c) (h2 : kitB (tyN d) n2 = some c2) : ON (rIsiA K) [d, .tup [.ty n, .ty n2]] (.bl (c || c2)) := fun o H vs l hv Q q => by
  obtain ⟨u, r, rfl, h1, u2, r2, rfl, ⟨p, us, rfl, n1, e1, u3, r3, rfl, rfl, u4, r4, rfl, rfl, rfl⟩, rfl⟩ := hv
  refine .inr ⟨u, p, _, _, [.type n, .type n2], (c || c2), rfl, e1, .cons (.ty _) (.cons (.ty _) .nil), tyx h1 hd, ?_, q _ _ (Ex.refl _) rfl⟩
  refine kitAny_cons (kit_ty h) (fun e => ?_) (fun e => by rw [e] <;> rfl)
  refine kitAny_cons (kit_ty h2) (fun e2 => ?_) (fun e2 => by rw [e, e2] <;> rfl)
  rw [e, e2]
  exact kitAny_nil
end
end Lk
set_option Elab.async false
set_option linter.all false
set_option maxRecDepth 100000
set_option maxHeartbeats 4000000
namespace Lk
open PySem PySem.Spec PyProof.Rows L2 RZ
open Evl (Ex)

theorem imm {o : List Addr} {H : Hp} {d : D} {v : V} (h : Is o H d v) : EntOk o H (.im d) (some v) := ⟨v, rfl, h⟩
/-! ### a list that is being made -/
def mns (H : Hp) (p : Addr) : Hp := fun a => if a = p then none else H a
theorem mns_ne {H : Hp} {p a : Addr} (h : a ≠ p) : mns H p a = H a := by unfold mns; rw [if_neg h]
theorem mns_le {H : Hp} {p a : Addr} {x : HO} (h : mns H p a = some x) : a ≠ p ∧ H a = some x := by
  unfold mns at h
  by_cases e : a = p
  · rw [if_pos e] at h
    cases h
  · rw [if_neg e] at h
    exact ⟨e, h⟩
theorem mns_upd {H : Hp} {p : Addr} {x : HO} : mns (upd H p x) p = mns H p := by
  funext a
  unfold mns
  by_cases e : a = p
  · rw [if_pos e, if_pos e]
  · rw [if_neg e, if_neg e, upd_ne e]
theorem mns_none {H : Hp} {p : Addr} (h : H p = none) : mns H p = H := by
  funext a
  unfold mns
  by_cases e : a = p
  · rw [if_pos e, e, h]
  · rw [if_neg e]
theorem mns_ex {H H' : Hp} {p : Addr} (h : Ex H H') : Ex (mns H p) (mns H' p) := fun a x e => by
  obtain ⟨n, e⟩ := mns_le e
  rw [mns_ne n]
  exact h a x e
theorem mns_sub {H : Hp} {p : Addr} : Ex (mns H p) H := fun a x e => (mns_le e).2
/-- m, and at p a list of the data ys is being made -/
def Md.ow (m : Md) (p : Addr) (ys : List D) : Md where
  o := p :: m.o
  J H := m.J (mns H p) ∧ ∃ us, H p = some (.lst us) ∧ IsAll (p :: m.o) H ys us
  jx H H' e j := ⟨m.jx _ _ (mns_ex e) j.1, let ⟨us, h1, h2⟩ := j.2; ⟨us, e p _ h1, h2.mono e.v⟩⟩
  jl H j a ha := by
    rcases List.mem_cons.mp ha with z | z
    · subst z
      obtain ⟨us, h1, _⟩ := j.2
      exact ⟨_, h1⟩
    · obtain ⟨x, e⟩ := m.jl _ j.1 a z
      exact ⟨x, (mns_le e).2⟩
section
variable {m : Md} {b H H' : Hp} {σ : L2.St} {ds : List Ent} {p : Addr} {ys : List D}
theorem ow_new (j : m.J H) (hp : H p = none) : (m.ow p []).J (upd H p (.lst [])) := ⟨by rw [mns_upd, mns_none hp]; exact j, [], upd_same, rfl⟩
theorem ow_app {d : D} {v : V} {us : List V} (j : (m.ow p ys).J H) (h : H p = some (.lst us)) (hv : Is (p :: m.o) H d v) : (m.ow p (ys ++ [d])).J (upd H p (.lst (us ++ [v]))) := by
  obtain ⟨j1, us', h1, h2⟩ := j
  rw [h] at h1
  cases h1
  refine ⟨by rw [mns_upd]; exact j1, _, upd_same, ?_⟩
  refine (h2.append (IsAll.one hv)).map fun a x n e => ⟨n, ?_⟩
  rw [upd_ne fun z => n (by rw [z]; exact List.mem_cons_self)]
  exact e
theorem ow_end (j : (m.ow p ys).J H) : m.J H := m.jx _ _ mns_sub j.1
theorem ow_data (j : (m.ow p ys).J H) (n : p ∉ m.o) : Is m.o H (.lst ys) (.ref p) := by
  obtain ⟨j1, us, h1, h2⟩ := j
  exact ⟨p, us, rfl, n, h1, h2.weak fun a ha => List.mem_cons_of_mem _ ha⟩
/-- the list is begun -/
theorem Sl.own (E : Sl m σ H ds) (hp : H p = none) : Sl (m.ow p []) σ (upd H p (.lst [])) ds := ⟨E.len, fun i e h => by
  obtain ⟨x, h1, h2⟩ := E.sl i e h
  exact ⟨x, h1, h2.map fun a y n q => ⟨fun z => (List.mem_cons.mp z).elim (fun z => by subst z; rw [hp] at q; cases q) n, Ex.new hp a y q⟩⟩, ow_new E.j hp⟩
theorem Sl.app {d : D} {v : V} {us : List V} (E : Sl (m.ow p ys) σ H ds) (h : H p = some (.lst us)) (hv : Is (p :: m.o) H d v) : Sl (m.ow p (ys ++ [d])) σ (upd H p (.lst (us ++ [v]))) ds := ⟨E.len, fun i e t => by
  obtain ⟨x, h1, h2⟩ := E.sl i e t
  exact ⟨x, h1, h2.map fun a y n q => ⟨n, by
    rw [upd_ne fun z => n (by rw [z]; exact List.mem_cons_self)]
    exact q⟩⟩, ow_app E.j h hv⟩
/-- the list is done: data as any other -/
theorem Env.done {i : Nat} (E : Env (m.ow p ys) b σ H ds) (n : p ∉ m.o) (hb : b p = none) (hi : ds[i]? = some (.raw (.ref p))) : Env m b σ H (ds.set i (.im (.lst ys))) := by
  refine ⟨⟨by rw [List.length_set]; exact E.s.len, fun k e h => ?_, ow_end E.s.j⟩, E.x.less hb⟩
  by_cases hik : i = k
  · subst hik
    obtain ⟨x, h1, h2⟩ := E.s.sl i _ hi
    rw [List.getElem?_set_self (List.getElem?_eq_some_iff.mp hi).1] at h
    cases h
    exact ⟨x, h1, _, h2, ow_data E.s.j n⟩
  · rw [List.getElem?_set_ne hik] at h
    obtain ⟨x, h1, h2⟩ := E.s.sl k e h
    exact ⟨x, h1, h2.map fun a y nn q => ⟨fun z => nn (List.mem_cons_of_mem _ z), q⟩⟩
end

/-! ### statements -/
theorem seq {t u : TS} {D : Ends} {σ : L2.St} {H : Hp} (h : t { D with nx := u D } σ H) : tSeq t u D σ H := h
section
variable {m : Md} {b H H' : Hp} {σ : L2.St} {ds : List Ent} {te ta : TE} {tt : TT} {d d2 : D} {D : Ends} {K : PySem.W.Frag}
theorem s_asgX {i : Nat} {P : Lk.D → Prop} (E : Env m b σ H ds) (g : GX m te ds P) (k : ∀ d σ' H', P d → Env m b σ' H' (ds.set i (.im d)) → D.nx σ' H') : tAsg te (gName i) D σ H :=
  g σ H E.s _ fun d v H' hp x j hv => k d _ H' hp ((E.step x j).set (imm hv))
theorem s_asg {i : Nat} (E : Env m b σ H ds) (g : G m te ds d) (k : ∀ σ' H', Env m b σ' H' (ds.set i (.im d)) → D.nx σ' H') : tAsg te (gName i) D σ H :=
  g σ H E.s _ fun v H' x j hv => k _ H' ((E.step x j).set (imm hv))
theorem s_par {i j : Nat} {ta tb : TE} (E : Env m b σ H ds) (ga : G m ta ds d) (gb : G m tb ds d2) (k : ∀ σ' H', Env m b σ' H' ((ds.set i (.im d)).set j (.im d2)) → D.nx σ' H') : tPar i j (tCons ta (tCons tb tNil)) D σ H :=
  ga σ H E.s _ fun v H1 x1 j1 i1 => gb σ H1 (E.s.step x1 j1) _ fun w H2 x2 j2 i2 => ⟨v, w, rfl, k _ _ (((E.step (x1.trans x2) j2).set (imm (i1.mono x2))).set (imm i2))⟩
/-- x, y = (e, []) : the list at y is begun -/
theorem s_parNew {i j : Nat} {ta : TE} (E : Env m b σ H ds) (ga : G m ta ds d) (k : ∀ p σ' H', p ∉ m.o → b p = none → Env (m.ow p []) b σ' H' ((ds.set i (.im d)).set j (.raw (.ref p))) → D.nx σ' H') : tPar i j (tCons ta (tCons (tLst tNil) tNil)) D σ H :=
  ga σ H E.s _ fun v H1 x1 j1 i1 => ⟨Nat.zero_le _, fun p hp => ⟨v, .ref p, rfl, by
    have E1 := E.step x1 j1
    have n := nin (m.jl _ j1) hp
    have hb : b p = none := by
      cases hb : b p with
      | none => rfl
      | some y =>
        have := E1.x p y n hb
        rw [hp] at this
        cases this
    have i2 : Is (m.ow p []).o (upd H1 p (.lst [])) d v := i1.hide hp
    refine k p _ _ n hb ⟨((E1.s.own hp).set (imm i2)).set rfl, ?_⟩
    exact fun a y na e => Ex.new hp a y (E1.x a y (fun z => na (List.mem_cons_of_mem _ z)) e)⟩⟩
theorem s_ret (E : Env m b σ H ds) (g : G m te ds d) (k : ∀ v H', Xv m.o b H' → m.J H' → Is m.o H' d v → D.rt v H') : tRet te D σ H :=
  g σ H E.s _ fun v H' x j i => k v H' (E.x.trans x) j i
theorem s_retX {P : Lk.D → Prop} (E : Env m b σ H ds) (g : GX m te ds P) (k : ∀ d v H', P d → Xv m.o b H' → m.J H' → Is m.o H' d v → D.rt v H') : tRet te D σ H :=
  g σ H E.s _ fun d v H' p x j i => k d v H' p (E.x.trans x) j i
theorem s_if {c : Bool} {tu tw : TS} (E : Env m b σ H ds) (g : GT m tt ds c) (h1 : c = true → ∀ H', Env m b σ H' ds → tu D σ H') (h2 : c = false → ∀ H', Env m b σ H' ds → tw D σ H') : tIfS tt tu tw D σ H :=
  g σ H E.s _ fun H' x j => by
    cases c with
    | true => exact h1 rfl H' (E.step x j)
    | false => exact h2 rfl H' (E.step x j)
theorem s_drop (E : Env m b σ H ds) (g : G m te ds d) (k : ∀ H', Env m b σ H' ds → D.nx σ H') : tDrop te D σ H :=
  g σ H E.s _ fun v H' x j i => k H' (E.step x j)
theorem s_aug {i : Nat} {f : Int → Int → Int} {a c : Int} (E : Env m b σ H ds) (hx : ds[i]? = some (.im (.int a))) (g : G m te ds (.int c)) (k : ∀ σ' H', Env m b σ' H' (ds.set i (.im (.int (f a c)))) → D.nx σ' H') : tAug i te (ipI f) D σ H := by
  obtain ⟨x, h1, v, rfl, hv⟩ := E.s.sl i _ hx
  exact ⟨v, h1, g σ H E.s _ fun w H' x j iw => ⟨a, c, hv, iw, k _ _ ((E.step x j).set (imm rfl))⟩⟩
/-- x, y = e; x, y, z = e: e gives a tuple -/
theorem s_unp2 {i j : Nat} (E : Env m b σ H ds) (g : G m te ds (.tup [d, d2])) (k : ∀ σ' H', Env m b σ' H' ((ds.set i (.im d)).set j (.im d2)) → D.nx σ' H') : tAsg te (gTup K 2 (gCons (gName i) (gCons (gName j) gNil))) D σ H :=
  g σ H E.s _ fun v H' x jj hv => by
    obtain ⟨p, us, rfl, n, e, u, r, rfl, iu, u2, r2, rfl, iu2, rfl⟩ := hv
    exact ⟨p, [u, u2], rfl, SqT.of e, rfl, u, _, rfl, u2, _, rfl, rfl, k _ _ (((E.step x jj).set (imm iu)).set (imm iu2))⟩
theorem s_unp3 {i j l : Nat} {d3 : Lk.D} (E : Env m b σ H ds) (g : G m te ds (.tup [d, d2, d3])) (k : ∀ σ' H', Env m b σ' H' (((ds.set i (.im d)).set j (.im d2)).set l (.im d3)) → D.nx σ' H') : tAsg te (gTup K 3 (gCons (gName i) (gCons (gName j) (gCons (gName l) gNil)))) D σ H :=
  g σ H E.s _ fun v H' x jj hv => by
    obtain ⟨p, us, rfl, n, e, u, r, rfl, iu, u2, r2, rfl, iu2, u3, r3, rfl, iu3, rfl⟩ := hv
    exact ⟨p, [u, u2, u3], rfl, SqT.of e, rfl, u, _, rfl, u2, _, rfl, u3, _, rfl, rfl, k _ _ ((((E.step x jj).set (imm iu)).set (imm iu2)).set (imm iu3))⟩
/-- found.append(e), found the list that is being made -/
theorem s_app {p : Addr} {ys : List Lk.D} {i : Nat} (E : Env (m.ow p ys) b σ H ds) (hi : ds[i]? = some (.raw (.ref p))) (hz : ys.length < 100000) (g : G (m.ow p ys) te ds d) (k : ∀ H', Env (m.ow p (ys ++ [d])) b σ H' ds → D.nx σ H') :
    tDrop (tBM K "list" rAppend (tVar i) (tCons te tNil)) D σ H := by
  obtain ⟨x, h1, h2⟩ := E.s.sl i _ hi
  have h2 : x = some (.ref p) := h2
  subst h2
  obtain ⟨j1, us, e1, a1⟩ := E.s.j
  refine ⟨.ref p, h1, .inl ⟨rfl, us, SqL.of e1⟩, g σ H E.s _ fun v H' x j iv => ?_⟩
  obtain ⟨j2, ws, e2, a2⟩ := id j
  refine ⟨p, ws, v, rfl, rfl, e2, szlt (by rw [a2.len]; exact hz), k _ ⟨(E.s.step x j).app e2 iv, fun a y na e => ?_⟩⟩
  rw [upd_ne fun z => na (by rw [z]; exact List.mem_cons_self)]
  exact (E.x.trans x) a y na e
theorem s_while {c : TT} {tb : TS} (E : Env m b σ H ds) (inv : Nat → List Ent → Prop) (k0 : Nat) (h0 : inv k0 ds)
    (hs : ∀ k ds', inv k ds' → ∃ cc, GT m c ds' cc ∧ (cc = true → ∀ σ' H' (N : L2.St → Hp → Prop), Env m b σ' H' ds' → (∀ k' ds'' σ'' H'', k' < k → inv k' ds'' → Env m b σ'' H'' ds'' → N σ'' H'') → tb { D with nx := N, ct := N, bk := D.nx } σ' H') ∧ (cc = false → ∀ σ' H', Env m b σ' H' ds' → D.nx σ' H')) : tWhile c tb D σ H := by
  refine ⟨fun k σ' H' => ∃ ds', inv k ds' ∧ Env m b σ' H' ds', ⟨k0, ds, h0, E⟩, ?_⟩
  rintro k σ1 H1 ⟨ds1, h1, E1⟩
  obtain ⟨cc, g, ht, hf⟩ := hs k ds1 h1
  refine g σ1 H1 E1.s _ fun H2 x j => ?_
  cases cc with
  | true =>
    refine ⟨fun σ' H' => ∃ k' ds'', k' < k ∧ inv k' ds'' ∧ Env m b σ' H' ds'', ?_, ht rfl σ1 H2 _ (E1.step x j) fun k' ds'' σ'' H'' l i e => ⟨k', ds'', l, i, e⟩⟩
    rintro σ' H' ⟨k', ds'', l, i, e⟩
    exact ⟨k', l, ds'', i, e⟩
  | false => exact hf rfl σ1 H2 (E1.step x j)
end

/-! ### what is walked -/
def Wk (o : List Addr) (J : It) (H1 : Hp) (xs : List D) : Prop := ∀ (o' : List Addr) H2, (∀ a ∈ o', a ∈ o ∨ H1 a = none) → Xv o' H1 H2 → (∀ a ∈ o', ∃ x, H2 a = some x) →
  J.stop xs.length H2 ∧ ∀ (i : Nat) (d : D), xs[i]? = some d → J.go i H2 ∧ ∀ x H3, J.yld i H2 x H3 → Ex H2 H3 ∧ Is o' H3 d x
theorem wkO {o o' : List Addr} {H1 H2 : Hp} (ho : ∀ a ∈ o', a ∈ o ∨ H1 a = none) (x : Xv o' H1 H2) : ∀ a y, a ∉ o → H1 a = some y → a ∉ o' ∧ H2 a = some y := fun a y n e => by
  have na : a ∉ o' := fun z => by
    rcases ho a z with z | z
    · exact n z
    · rw [z] at e
      cases e
  exact ⟨na, x a y na e⟩
def GI (m : Md) (wi : TI) (ds : List Ent) (xs : List D) : Prop := ∀ σ H, Sl m σ H ds → ∀ R : It → Hp → Prop, (∀ J H1, Xv m.o H H1 → m.J H1 → Wk m.o J H1 xs → R J H1) → wi σ H R
section
variable {m : Md} {ds : List Ent} {te : TE} {K : PySem.W.Frag} {xs ys : List D}
theorem gi_list (g : G m te ds (.lst xs)) : GI m (iList K te) ds xs := fun σ H E R q => g σ H E _ fun v H1 x j i => by
  obtain ⟨p, us, rfl, n, e, a⟩ := i
  refine ⟨p, rfl, ⟨us, SqL.of e⟩, q _ H1 x j fun o' H2 ho x2 l => ?_⟩
  have e2 : SqL K H2 p us := SqL.of (wkO ho x2 p _ n e).2
  refine ⟨⟨us, e2, by rw [a.len]; exact Nat.le_refl _⟩, fun k d hd => ?_⟩
  obtain ⟨u, hu, iu⟩ := a.get hd
  refine ⟨⟨us, u, e2, hu⟩, fun v H3 y => ?_⟩
  obtain ⟨rfl, y2⟩ := y
  have := (y2 us e2).symm.trans hu
  cases this
  exact ⟨Ex.refl _, iu.map (wkO ho x2)⟩
theorem gi_tup (g : G m te ds (.tup xs)) : GI m (iTup K te) ds xs := fun σ H E R q => g σ H E _ fun v H1 x j i => by
  obtain ⟨p, us, rfl, n, e, a⟩ := i
  refine ⟨p, rfl, ⟨us, SqT.of e⟩, q _ H1 x j fun o' H2 ho x2 l => ?_⟩
  have e2 : SqT K H2 p us := SqT.of (wkO ho x2 p _ n e).2
  refine ⟨⟨us, e2, by rw [a.len]; exact Nat.le_refl _⟩, fun k d hd => ?_⟩
  obtain ⟨u, hu, iu⟩ := a.get hd
  refine ⟨⟨us, u, e2, hu⟩, fun v H3 y => ?_⟩
  obtain ⟨rfl, y2⟩ := y
  have := (y2 us e2).symm.trans hu
  cases this
  exact ⟨Ex.refl _, iu.map (wkO ho x2)⟩
/-- the ints lo, lo + 1, .. n of them -/
def rg (lo : Int) (n : Nat) : List Int := (List.range n).map fun k : Nat => lo + (k : Int)
theorem rg_len (lo : Int) (n : Nat) : (rg lo n).length = n := by simp [rg]
theorem rg_get {lo : Int} {n i : Nat} {x : Int} (h : (rg lo n)[i]? = some x) : i < n ∧ x = lo + (i : Int) := by
  unfold rg at h
  rw [List.getElem?_map] at h
  by_cases hi : i < n
  · rw [List.getElem?_range hi] at h
    cases h
    exact ⟨hi, rfl⟩
  · rw [List.getElem?_eq_none (by simp; omega)] at h
    cases h
theorem wk_rng {o : List Addr} {H : Hp} {lo : Int} {n : Nat} : Wk o (Itr lo n) H ((rg lo n).map D.int) := fun _ H2 _ _ _ => ⟨by
    show n ≤ _
    rw [List.length_map, rg_len]
    exact Nat.le_refl _, fun i d hd => by
  rw [List.getElem?_map] at hd
  cases h : (rg lo n)[i]? with
  | none =>
    rw [h] at hd
    cases hd
  | some x =>
    rw [h] at hd
    cases hd
    obtain ⟨h1, h2⟩ := rg_get h
    refine ⟨h1, fun v H3 y => ?_⟩
    obtain ⟨rfl, rfl⟩ := y
    refine ⟨Ex.refl _, ?_⟩
    show V.int _ = V.int _
    rw [h2]⟩
theorem gi_rng1 {ta : TA} {n : Int} (g : GA m ta ds [.int n]) (hn : -1000000 ≤ n ∧ n ≤ 1000000) : GI m (iRng1 ta) ds ((rg 0 n.toNat).map D.int) := fun σ H E R q => g σ H E _ fun vs H1 x j i => by
  obtain ⟨u, r, rfl, rfl, rfl⟩ := i
  exact ⟨n, rfl, by omega, by omega, q _ H1 x j wk_rng⟩
theorem gi_rng2 {ta : TA} {lo n : Int} (g : GA m ta ds [.int lo, .int n]) (hn : -1000000 ≤ n ∧ n ≤ 1000000 ∧ -1000000 ≤ lo ∧ lo ≤ 1000000) : GI m (iRng2 ta) ds ((rg lo (n - lo).toNat).map D.int) := fun σ H E R q => g σ H E _ fun vs H1 x j i => by
  obtain ⟨u, r, rfl, rfl, u2, r2, rfl, rfl, rfl⟩ := i
  exact ⟨lo, n, rfl, ⟨by omega, by omega, by omega, by omega⟩, q _ H1 x j wk_rng⟩
theorem zip_get {xs ys : List D} {i : Nat} {d : D} (h : (List.zipWith (fun x y => D.tup [x, y]) xs ys)[i]? = some d) : ∃ x y, xs[i]? = some x ∧ ys[i]? = some y ∧ d = .tup [x, y] := by
  rw [List.getElem?_zipWith] at h
  cases hx : xs[i]? with
  | none => simp [hx] at h
  | some x =>
    cases hy : ys[i]? with
    | none => simp [hx, hy] at h
    | some y =>
      simp [hx, hy] at h
      exact ⟨x, y, rfl, rfl, h.symm⟩
theorem gi_zip {ta : TA} (g : GA m ta ds [.lst xs, .lst ys]) : GI m (iZipA K ta) ds (List.zipWith (fun x y => D.tup [x, y]) xs ys) := fun σ H E R q => g σ H E _ fun vs H1 x j i => by
  obtain ⟨u, r, rfl, ⟨p, us, rfl, n, e, a⟩, u2, r2, rfl, ⟨p2, us2, rfl, n2, e2, a2⟩, rfl⟩ := i
  refine ⟨p, p2, us, us2, rfl, .inl ⟨SqL.of e, SqL.of e2, q _ H1 x j fun o' H2 ho x2 l => ?_⟩⟩
  have f1 : SqL K H2 p us := SqL.of (wkO ho x2 p _ n e).2
  have f2 : SqL K H2 p2 us2 := SqL.of (wkO ho x2 p2 _ n2 e2).2
  refine ⟨⟨us, us2, f1, f2, by rw [a.len, a2.len, List.length_zipWith]; omega⟩, fun k d hd => ?_⟩
  obtain ⟨dx, dy, hx, hy, rfl⟩ := zip_get hd
  obtain ⟨vx, gx, ix⟩ := a.get hx
  obtain ⟨vy, gy, iy⟩ := a2.get hy
  refine ⟨⟨us, us2, vx, vy, f1, f2, gx, gy⟩, fun v H3 y => ?_⟩
  obtain ⟨T, x', y', rfl, hT, rfl, k1, k2⟩ := y
  have := (k1 us f1).symm.trans gx
  cases this
  have := (k2 us2 f2).symm.trans gy
  cases this
  exact ⟨Ex.new hT, T, _, rfl, nin l hT, upd_same, _, _, rfl, (ix.map (wkO ho x2)).mono (Ex.new hT).v, _, _, rfl, (iy.map (wkO ho x2)).mono (Ex.new hT).v, rfl⟩
theorem gi_zipT {ta : TA} (g : GA m ta ds [.tup xs, .tup ys]) : GI m (iZipA K ta) ds (List.zipWith (fun x y => D.tup [x, y]) xs ys) := fun σ H E R q => g σ H E _ fun vs H1 x j i => by
  obtain ⟨u, r, rfl, ⟨p, us, rfl, n, e, a⟩, u2, r2, rfl, ⟨p2, us2, rfl, n2, e2, a2⟩, rfl⟩ := i
  refine ⟨p, p2, us, us2, rfl, .inr ⟨SqT.of e, SqT.of e2, q _ H1 x j fun o' H2 ho x2 l => ?_⟩⟩
  have f1 : SqT K H2 p us := SqT.of (wkO ho x2 p _ n e).2
  have f2 : SqT K H2 p2 us2 := SqT.of (wkO ho x2 p2 _ n2 e2).2
  refine ⟨⟨us, us2, f1, f2, by rw [a.len, a2.len, List.length_zipWith]; omega⟩, fun k d hd => ?_⟩
  obtain ⟨dx, dy, hx, hy, rfl⟩ := zip_get hd
  obtain ⟨vx, gx, ix⟩ := a.get hx
  obtain ⟨vy, gy, iy⟩ := a2.get hy
  refine ⟨⟨us, us2, vx, vy, f1, f2, gx, gy⟩, fun v H3 y => ?_⟩
  obtain ⟨T, x', y', rfl, hT, rfl, k1, k2⟩ := y
  have := (k1 us f1).symm.trans gx
  cases this
  have := (k2 us2 f2).symm.trans gy
  cases this
  exact ⟨Ex.new hT, T, _, rfl, nin l hT, upd_same, _, _, rfl, (ix.map (wkO ho x2)).mono (Ex.new hT).v, _, _, rfl, (iy.map (wkO ho x2)).mono (Ex.new hT).v, rfl⟩
theorem GI.is (g : GI m wi ds xs) (e : xs = ys) : GI m wi ds ys := by
  rw [← e]
  exact g
end

/-! ### targets -/
/-- g stores d: u tells the slots behind it; all that it sets stands in vs -/
def Tg (g : TG) (vs : List Nat) (d : D) (u : List Ent → List Ent) : Prop := ∀ (m : Md) (σ : L2.St) (H : Hp) (ds : List Ent) (v : V), Sl m σ H ds → Is m.o H d v → ∀ Q : L2.St → Hp → Prop, (∀ σ', Sl m σ' H (u ds) → wipe σ' vs = wipe σ vs → Q σ' H) → g v σ H Q
theorem wipe_get (σ : L2.St) (i : Nat) : ∀ vs : List Nat, (wipe σ vs)[i]? = if i ∈ vs then (σ[i]?).map (fun _ => none) else σ[i]?
  | [] => by simp [wipe]
  | v :: vs => by
    unfold wipe
    by_cases h : v = i
    · subst h
      rw [if_pos List.mem_cons_self]
      by_cases hl : v < σ.length
      · rw [List.getElem?_set_self (by rw [wipe_length]; exact hl), List.getElem?_eq_getElem hl] <;> rfl
      · rw [List.getElem?_eq_none (by rw [List.length_set, wipe_length]; omega), List.getElem?_eq_none (by omega)] <;> rfl
    · rw [List.getElem?_set_ne h, wipe_get σ i vs]
      have e : (i ∈ v :: vs) = (i ∈ vs) := by
        rw [List.mem_cons]
        exact propext ⟨fun z => z.elim (fun z => absurd z.symm h) id, .inr⟩
      simp only [e]
theorem wipe_set {σ : L2.St} {j : Nat} {x : Option V} {vs : List Nat} (h : j ∈ vs) : wipe (σ.set j x) vs = wipe σ vs := by
  apply List.ext_getElem?
  intro i
  rw [wipe_get, wipe_get]
  by_cases hi : i ∈ vs
  · rw [if_pos hi, if_pos hi]
    by_cases hij : j = i
    · subst hij
      by_cases hl : j < σ.length
      · rw [List.getElem?_set_self hl, List.getElem?_eq_getElem hl] <;> rfl
      · rw [List.getElem?_eq_none (by rw [List.length_set]; omega), List.getElem?_eq_none (by omega)]
    · rw [List.getElem?_set_ne hij]
  · rw [if_neg hi, if_neg hi, List.getElem?_set_ne (fun e => hi (by rw [← e]; exact h))]
theorem wipe_wipe {σ : L2.St} {vs : List Nat} : wipe (wipe σ vs) vs = wipe σ vs := by
  apply List.ext_getElem?
  intro i
  rw [wipe_get, wipe_get]
  by_cases hi : i ∈ vs
  · rw [if_pos hi, if_pos hi, Option.map_map] <;> rfl
  · rw [if_neg hi]
theorem tg_name {i : Nat} {vs : List Nat} {d : D} (h : i ∈ vs := by decide) : Tg (gName i) vs d (fun ds => ds.set i (.im d)) := fun m σ H ds v E iv Q q => q _ (E.set (imm iv)) (wipe_set h)
theorem tg_pair {K : PySem.W.Frag} {i j : Nat} {vs : List Nat} {d d2 : D} (h : i ∈ vs := by decide) (h2 : j ∈ vs := by decide) : Tg (gTup K 2 (gCons (gName i) (gCons (gName j) gNil))) vs (.tup [d, d2]) (fun ds => (ds.set i (.im d)).set j (.im d2)) := fun m σ H ds v E iv Q q => by
  obtain ⟨p, us, rfl, n, e, u, r, rfl, iu, u2, r2, rfl, iu2, rfl⟩ := iv
  exact ⟨p, [u, u2], rfl, SqT.of e, rfl, u, _, rfl, u2, _, rfl, rfl, q _ ((E.set (imm iu)).set (imm iu2)) ((wipe_set h2).trans (wipe_set h))⟩

/-! ### comprehensions -/
/-- which items give what -/
inductive LcR {α : Type} (T : α → Bool → Prop) (P : α → D → Prop) : List α → List D → Prop
  | nil : LcR T P [] []
  | skip {xs : List α} {ys : List D} {x : α} : LcR T P xs ys → T x false → LcR T P (xs ++ [x]) ys
  | take {xs : List α} {ys : List D} {x : α} {y : D} : LcR T P xs ys → T x true → P x y → LcR T P (xs ++ [x]) (ys ++ [y])
theorem LcR.len {α : Type} {T : α → Bool → Prop} {P : α → D → Prop} {xs : List α} {ys : List D} (h : LcR T P xs ys) : ys.length ≤ xs.length := by
  induction h with
  | nil => exact Nat.le_refl _
  | skip h t ih => rw [List.length_append]; omega
  | take h t p ih => rw [List.length_append, List.length_append]; exact Nat.add_le_add_right ih 1
theorem LcR.det {α : Type} {c : α → Bool} {f : α → D} {xs : List α} {ys : List D} (h : LcR (fun x k => k = c x) (fun x y => y = f x) xs ys) : ys = (xs.filter c).map f := by
  induction h with
  | nil => rfl
  | skip h t ih => rw [List.filter_append, List.map_append, ← ih, List.filter_cons_of_neg (by rw [← t]; decide)] <;> simp
  | take h t p ih =>
    subst p
    rw [List.filter_append, List.map_append, ← ih, List.filter_cons_of_pos t.symm] <;> simp
theorem gx_lc {α : Type} {m : Md} {wi : TI} {ds : List Ent} {zs : List α} {e : α → D} {g : TG} {tt : TT} {te : TE} {vs : List Nat} {u : α → List Ent → List Ent} {T : α → Bool → Prop} {P : α → D → Prop}
    (hi : GI m wi ds (zs.map e)) (hz : zs.length ≤ 50000) (hg : ∀ z ∈ zs, Tg g vs (e z) (u z))
    (ht : ∀ p acc z, p ∉ m.o → z ∈ zs → GTX (m.ow p acc) tt (u z (wE ds vs)) (T z))
    (he : ∀ p acc z, p ∉ m.o → z ∈ zs → T z true → GX (m.ow p acc) te (u z (wE ds vs)) (P z)) :
    GX m (tLc wi g tt te vs) ds (fun d => ∃ ys, d = .lst ys ∧ LcR T P zs ys) := fun σ H E Q q => hi σ H E _ fun J H1 x1 j1 wk Dl hD => by
  have nD : Dl ∉ m.o := nin (m.jl _ j1) hD
  have E1 : Sl m σ H1 ds := E.step x1 j1
  refine ⟨fun i k H' => k = zs.length - i ∧ i ≤ zs.length ∧ ∃ ys, LcR T P (zs.take i) ys ∧ (m.ow Dl ys).J H' ∧ Xv (Dl :: m.o) H1 H', ⟨zs.length, rfl, Nat.zero_le _, [], .nil, ow_new j1 hD, (Ex.new hD).v⟩, ?_⟩
  rintro i k H' ⟨rfl, hi', ys, hL, jj, xx⟩
  have xm : Xv m.o H1 H' := xx.less hD
  have jm : m.J H' := ow_end jj
  have ho : ∀ a ∈ Dl :: m.o, a ∈ m.o ∨ H1 a = none := fun a ha => by
    rcases List.mem_cons.mp ha with z | z
    · subst z
      exact .inr hD
    · exact .inl z
  obtain ⟨w1, w2⟩ := wk (Dl :: m.o) H' ho xx ((m.ow Dl ys).jl _ jj)
  by_cases hlt : i < zs.length
  · have hgz : zs[i]? = some zs[i] := List.getElem?_eq_getElem hlt
    have hmz : zs[i] ∈ zs := List.getElem_mem hlt
    have htk : zs.take (i + 1) = zs.take i ++ [zs[i]] := by rw [List.take_add_one, hgz] <;> rfl
    obtain ⟨w3, w4⟩ := w2 i (e zs[i]) (by rw [List.getElem?_map, hgz] <;> rfl)
    refine .inr ⟨w3, fun H'' => ∃ ys, LcR T P (zs.take (i + 1)) ys ∧ (m.ow Dl ys).J H'' ∧ Xv (Dl :: m.o) H1 H'', ?_, fun x H3 y => ?_⟩
    · rintro H'' ⟨ys', a1, a2, a3⟩
      exact ⟨zs.length - (i + 1), by omega, rfl, hlt, ys', a1, a2, a3⟩
    · obtain ⟨e3, i3⟩ := w4 x H3 y
      have j3 : (m.ow Dl ys).J H3 := (m.ow Dl ys).jx _ _ e3 jj
      have x3 : Xv (Dl :: m.o) H1 H3 := xx.trans e3.v
      have ED : Sl (m.ow Dl ys) σ H3 ds := ⟨E1.len, fun k t h => by
        obtain ⟨v, h1, h2⟩ := E1.sl k t h
        exact ⟨v, h1, h2.map (wkO ho x3)⟩, j3⟩
      refine hg zs[i] hmz (m.ow Dl ys) (wipe σ vs) H3 (wE ds vs) x (ED.wipe vs) i3 _ fun σ2 E2 hw => ⟨hw.trans wipe_wipe, ?_⟩
      refine ht Dl ys zs[i] nD hmz σ2 H3 E2 _ fun c H4 hc x4 j4 => ?_
      cases c with
      | false =>
        rw [if_neg (by decide)]
        exact ⟨ys, by rw [htk]; exact .skip hL hc, j4, x3.trans x4⟩
      | true =>
        rw [if_pos rfl]
        refine he Dl ys zs[i] nD hmz hc σ2 H4 (E2.step x4 j4) _ fun d v H5 hp x5 j5 i5 => ?_
        obtain ⟨us, hu, iu⟩ := id j5.2
        refine ⟨us, hu, szlt ?_, ys ++ [d], by rw [htk]; exact .take hL hc hp, ow_app j5 hu i5, ?_⟩
        · have h1 := hL.len
          rw [List.length_take] at h1
          rw [iu.len]
          omega
        · intro a z na ea
          rw [upd_ne (fun q => na (by rw [q]; exact List.mem_cons_self))]
          exact ((x3.trans x4).trans x5) a z na ea
  · have ei : i = zs.length := by omega
    subst ei
    rw [List.take_length] at hL
    refine .inl ⟨by rw [List.length_map] at w1; exact w1, q _ _ H' ⟨ys, rfl, hL⟩ (x1.trans xm) jm (ow_data jj nD)⟩
end Lk
set_option Elab.async false
set_option linter.all false
set_option maxRecDepth 100000
set_option maxHeartbeats 4000000
namespace Lk
open PySem PySem.Spec PyProof.Rows L2 RZ
open Evl (Ex)

theorem tyes {σ : L2.St} {H : Hp} {A B : Hp → Prop} (h : A H) : tYes σ H (fun c H3 => if c = true then A H3 else B H3) := by
  show (if true = true then A H else B H)
  exact iteT h
theorem gt_yes {m : Md} {ds : List Ent} : GT m tYes ds true := fun σ H E Q q => q H (Xv.refl _ _) E.j
section
variable {α : Type} {m : Md} {wi : TI} {ds : List Ent} {zs : List α} {e : α → D} {g : TG} {tt : TT} {te : TE} {vs : List Nat} {u : α → List Ent → List Ent}
/-- [f z for z in zs if c z] -/
theorem g_lc (c : α → Bool) (f : α → D) (hi : GI m wi ds (zs.map e)) (hz : zs.length ≤ 50000) (hg : ∀ z ∈ zs, Tg g vs (e z) (u z))
    (ht : ∀ p acc z, z ∈ zs → GT (Md.ow m p acc) tt (u z (wE ds vs)) (c z))
    (he : ∀ p acc z, z ∈ zs → c z = true → G (Md.ow m p acc) te (u z (wE ds vs)) (f z)) : G m (tLc wi g tt te vs) ds (.lst ((zs.filter c).map f)) := fun σ H E Q q =>
  gx_lc (T := fun x k => k = c x) (P := fun x y => y = f x) hi hz hg (fun p acc z _ hm => (ht p acc z hm).x) (fun p acc z _ hm hc => (he p acc z hm hc.symm).x) σ H E Q fun d v H2 hd a b i => by
    obtain ⟨ys, rfl, hL⟩ := hd
    rw [hL.det] at i
    exact q v H2 a b i
theorem g_lcA (f : α → D) (hi : GI m wi ds (zs.map e)) (hz : zs.length ≤ 50000) (hg : ∀ z ∈ zs, Tg g vs (e z) (u z))
    (he : ∀ p acc z, z ∈ zs → G (Md.ow m p acc) te (u z (wE ds vs)) (f z)) : G m (tLc wi g tYes te vs) ds (.lst (zs.map f)) := by
  have h := g_lc (tt := tYes) (fun _ => true) f hi hz hg (fun p acc z _ => gt_yes) (fun p acc z hm _ => he p acc z hm)
  rw [List.filter_eq_self.mpr (fun _ _ => rfl)] at h
  exact h
/-- [f z w for z in zs for w in ws z] -/
theorem g_lc2 {β : Type} {wi1 : TI} {g1 : TG} {vs1 : List Nat} (ws : α → List β) (e1 : β → D) (u1 : α → β → List Ent → List Ent) (f : α → β → D) (N : Nat)
    (hi : GI m wi ds (zs.map e)) (hz : zs.length ≤ N) (hw : ∀ z ∈ zs, (ws z).length ≤ N) (hN : N * N < 100000) (hg : ∀ z ∈ zs, Tg g vs (e z) (u z))
    (hi1 : ∀ p acc z, z ∈ zs → GI (Md.ow m p acc) wi1 (u z (wE ds vs)) ((ws z).map e1)) (hg1 : ∀ z ∈ zs, ∀ w ∈ ws z, Tg g1 vs1 (e1 w) (u1 z w))
    (he : ∀ p acc z w, z ∈ zs → w ∈ ws z → G (Md.ow m p acc) te (u1 z w (wE (u z (wE ds vs)) vs1)) (f z w)) :
    G m (tLc2 wi g tYes wi1 g1 tYes te vs vs1) ds (.lst (zs.flatMap fun z => (ws z).map (f z))) := fun σ H E Q q => hi σ H E _ fun J H1 x1 j1 wk Dl hD => by
  have nD : Dl ∉ m.o := nin (m.jl _ j1) hD
  have E1 : Sl m σ H1 ds := E.step x1 j1
  have ho : ∀ a ∈ Dl :: m.o, a ∈ m.o ∨ H1 a = none := fun a ha => by
    rcases List.mem_cons.mp ha with z | z
    · subst z
      exact .inr hD
    · exact .inl z
  have hlen : ∀ i, i ≤ zs.length → ((zs.take i).flatMap fun z => (ws z).map (f z)).length ≤ i * N := fun i => by
    induction i with
    | zero => intro _; simp
    | succ i ih =>
      intro hi
      have hgz : zs[i]? = some zs[i] := List.getElem?_eq_getElem (by omega)
      rw [List.take_add_one, hgz, List.flatMap_append, List.length_append]
      have h1 := ih (by omega)
      have h2 := hw zs[i] (List.getElem_mem (by omega))
      rw [Nat.succ_mul]
      have h3 : ((some zs[i]).toList.flatMap fun z => (ws z).map (f z)).length = (ws zs[i]).length := by simp
      omega
  refine ⟨fun i k H' => k = zs.length - i ∧ i ≤ zs.length ∧ (m.ow Dl ((zs.take i).flatMap fun z => (ws z).map (f z))).J H' ∧ Xv (Dl :: m.o) H1 H', ⟨zs.length, rfl, Nat.zero_le _, ow_new j1 hD, (Ex.new hD).v⟩, ?_⟩
  rintro i k H' ⟨rfl, hi', jj, xx⟩
  have xm : Xv m.o H1 H' := xx.less hD
  have jm : m.J H' := ow_end jj
  obtain ⟨w1, w2⟩ := wk (Dl :: m.o) H' ho xx (Md.jl _ _ jj)
  by_cases hlt : i < zs.length
  · have hgz : zs[i]? = some zs[i] := List.getElem?_eq_getElem hlt
    have hmz : zs[i] ∈ zs := List.getElem_mem hlt
    have htk : (zs.take (i + 1)).flatMap (fun z => (ws z).map (f z)) = (zs.take i).flatMap (fun z => (ws z).map (f z)) ++ (ws zs[i]).map (f zs[i]) := by
      rw [List.take_add_one, hgz, List.flatMap_append]
      simp
    obtain ⟨w3, w4⟩ := w2 i (e zs[i]) (by rw [List.getElem?_map, hgz] <;> rfl)
    refine .inr ⟨w3, fun H'' => (m.ow Dl ((zs.take (i + 1)).flatMap fun z => (ws z).map (f z))).J H'' ∧ Xv (Dl :: m.o) H1 H'', ?_, fun x H3 y => ?_⟩
    · rintro H'' ⟨a2, a3⟩
      exact ⟨zs.length - (i + 1), by omega, rfl, hlt, a2, a3⟩
    · obtain ⟨e3, i3⟩ := w4 x H3 y
      have j3 := Md.jx _ _ _ e3 jj
      have x3 : Xv (Dl :: m.o) H1 H3 := xx.trans e3.v
      have ED : Sl (m.ow Dl ((zs.take i).flatMap fun z => (ws z).map (f z))) σ H3 ds := ⟨E1.len, fun k t h => by
        obtain ⟨v, h1, h2⟩ := E1.sl k t h
        exact ⟨v, h1, h2.map (wkO ho x3)⟩, j3⟩
      refine hg zs[i] hmz _ (wipe σ vs) H3 (wE ds vs) x (ED.wipe vs) i3 _ fun σ2 E2 hw2 => ⟨hw2.trans wipe_wipe, ?_⟩
      refine tyes ?_
      refine hi1 Dl _ zs[i] hmz σ2 H3 E2 _ fun J1 H4 x4 j4 wk1 => ?_
      have E4 := E2.step x4 j4
      refine ⟨fun j k H' => k = (ws zs[i]).length - j ∧ j ≤ (ws zs[i]).length ∧ (m.ow Dl ((zs.take i).flatMap (fun z => (ws z).map (f z)) ++ ((ws zs[i]).take j).map (f zs[i]))).J H' ∧ Xv (Dl :: m.o) H4 H', ⟨(ws zs[i]).length, rfl, Nat.zero_le _, ?_, Xv.refl _ _⟩, ?_⟩
      · rw [List.take_zero, List.map_nil, List.append_nil]
        exact j4
      rintro j k H5 ⟨rfl, hj', j5, x5⟩
      obtain ⟨v1, v2⟩ := wk1 (Dl :: m.o) H5 (fun a h => .inl h) x5 (Md.jl _ _ j5)
      by_cases hlj : j < (ws zs[i]).length
      · have hgw : (ws zs[i])[j]? = some (ws zs[i])[j] := List.getElem?_eq_getElem hlj
        have hmw : (ws zs[i])[j] ∈ ws zs[i] := List.getElem_mem hlj
        obtain ⟨v3, v4⟩ := v2 j (e1 (ws zs[i])[j]) (by rw [List.getElem?_map, hgw] <;> rfl)
        refine .inr ⟨v3, fun H'' => (m.ow Dl ((zs.take i).flatMap (fun z => (ws z).map (f z)) ++ ((ws zs[i]).take (j + 1)).map (f zs[i]))).J H'' ∧ Xv (Dl :: m.o) H4 H'', ?_, fun x6 H6 y6 => ?_⟩
        · rintro H'' ⟨a2, a3⟩
          exact ⟨(ws zs[i]).length - (j + 1), by omega, rfl, hlj, a2, a3⟩
        · obtain ⟨e6, i6⟩ := v4 x6 H6 y6
          have j6 := Md.jx _ _ _ e6 j5
          have x6' : Xv (Dl :: m.o) H4 H6 := x5.trans e6.v
          have E6 : Sl (m.ow Dl ((zs.take i).flatMap (fun z => (ws z).map (f z)) ++ ((ws zs[i]).take j).map (f zs[i]))) σ2 H6 (u zs[i] (wE ds vs)) := ⟨E4.len, fun k t h => by
            obtain ⟨v, h1, h2⟩ := E4.sl k t h
            exact ⟨v, h1, h2.map fun a y n q => ⟨n, x6' a y n q⟩⟩, j6⟩
          refine hg1 zs[i] hmz _ hmw _ (wipe σ2 vs1) H6 (wE (u zs[i] (wE ds vs)) vs1) x6 (E6.wipe vs1) i6 _ fun σ3 E7 hw3 => ⟨hw3.trans wipe_wipe, ?_⟩
          refine tyes ?_
          refine he Dl _ zs[i] _ hmz hmw σ3 H6 E7 _ fun v H7 x7 j7 i7 => ?_
          obtain ⟨us, hu, iu⟩ := id j7.2
          refine ⟨us, hu, szlt ?_, ?_, ?_⟩
          · rw [iu.len, List.length_append, List.length_map, List.length_take]
            have h1 := hlen i (by omega)
            have h2 := hw zs[i] hmz
            have h3 : i * N ≤ (N - 1) * N := Nat.mul_le_mul_right N (by omega)
            have h4 : (N - 1) * N + N ≤ N * N := by
              cases N with
              | zero => omega
              | succ n =>
                rw [Nat.succ_mul]
                show n * (n + 1) + (n + 1) ≤ n * (n + 1) + (n + 1)
                exact Nat.le_refl _
            omega
          · have h1 : ((ws zs[i]).take (j + 1)).map (f zs[i]) = ((ws zs[i]).take j).map (f zs[i]) ++ [f zs[i] (ws zs[i])[j]] := by
              rw [List.take_add_one, hgw, List.map_append]
              rfl
            rw [h1, ← List.append_assoc]
            exact ow_app j7 hu i7
          · intro a z na ea
            rw [upd_ne (fun q => na (by rw [q]; exact List.mem_cons_self))]
            exact (x6'.trans x7) a z na ea
      · have ej : j = (ws zs[i]).length := by omega
        subst ej
        rw [List.take_length] at j5
        refine .inl ⟨by rw [List.length_map] at v1; exact v1, by rw [htk]; exact j5, (x3.trans x4).trans x5⟩
  · have ei : i = zs.length := by omega
    subst ei
    rw [List.take_length] at jj
    refine .inl ⟨by rw [List.length_map] at w1; exact w1, q _ H' (x1.trans xm) jm (ow_data jj nD)⟩
end

/-! ### for: a family of modes with the same hidden objects -/
section
variable {α κ : Type} {b H : Hp} {σ : L2.St} {ds : List Ent} {D : Ends} {wi : TI} {g : TG} {tb : TS} {zs : List α} {e : α → Lk.D} {u : α → List Ent → List Ent}
theorem s_forM {o : List Addr} (M : κ → Md) (ho : ∀ k, (M k).o = o) (k0 : κ) (E : Env (M k0) b σ H ds) (hi : GI (M k0) wi ds (zs.map e)) (hg : ∀ z ∈ zs, Tg g [] (e z) (u z) ∨ ∀ vs : List Nat, True → ∃ vs', Tg g vs' (e z) (u z))
    (inv : Nat → List Ent → κ → Prop) (h0 : inv 0 ds k0)
    (hs : ∀ b' i z ds' k σ' H' (N : L2.St → Hp → Prop), zs[i]? = some z → inv i ds' k → Env (M k) b' σ' H' (u z ds') → (∀ ds'' k' σ'' H'', inv (i + 1) ds'' k' → Env (M k') b' σ'' H'' ds'' → N σ'' H'') → tb { D with nx := N, ct := N, bk := D.nx } σ' H')
    (hd : ∀ ds' k σ' H', inv zs.length ds' k → Env (M k) b σ' H' ds' → D.nx σ' H') : tFor wi g tb D σ H := hi σ H E.s _ fun J H1 x1 j1 wk => by
  have E1 := E.step x1 j1
  refine ⟨fun i n σ' H' => n = zs.length - i ∧ i ≤ zs.length ∧ ∃ ds' k, inv i ds' k ∧ Env (M k) H1 σ' H' ds', ⟨zs.length, rfl, Nat.zero_le _, ds, k0, h0, E1.rebase⟩, ?_⟩
  rintro i n σ' H' ⟨rfl, hi', ds', k, hk, E'⟩
  have xx : Xv (M k0).o H1 H' := by
    rw [ho k0, ← ho k]
    exact E'.x
  obtain ⟨w1, w2⟩ := wk (M k0).o H' (fun a h => .inl h) xx (by rw [ho k0, ← ho k]; exact E'.live)
  by_cases hlt : i < zs.length
  · have hgz : zs[i]? = some zs[i] := List.getElem?_eq_getElem hlt
    have hmz : zs[i] ∈ zs := List.getElem_mem hlt
    obtain ⟨w3, w4⟩ := w2 i (e zs[i]) (by rw [List.getElem?_map, hgz] <;> rfl)
    refine .inr ⟨w3, fun σ'' H'' => ∃ ds'' k', inv (i + 1) ds'' k' ∧ Env (M k') H1 σ'' H'' ds'', ?_, fun x H3 y => ?_⟩
    · rintro σ'' H'' ⟨ds'', k', a1, a2⟩
      exact ⟨zs.length - (i + 1), by omega, rfl, hlt, ds'', k', a1, a2⟩
    · obtain ⟨e3, i3⟩ := w4 x H3 y
      have E3 := E'.step e3.v ((M k).jx _ _ e3 E'.s.j)
      rw [ho k0, ← ho k] at i3
      have fin : ∀ vs, Tg g vs (e zs[i]) (u zs[i]) → g x σ' H3 fun σ2 H2 => tb { D with nx := fun σ'' H'' => ∃ ds'' k', inv (i + 1) ds'' k' ∧ Env (M k') H1 σ'' H'' ds'', ct := fun σ'' H'' => ∃ ds'' k', inv (i + 1) ds'' k' ∧ Env (M k') H1 σ'' H'' ds'', bk := D.nx } σ2 H2 :=
        fun vs tg => tg (M k) σ' H3 ds' x E3.s i3 _ fun σ2 E2 _ => hs H1 i zs[i] ds' k σ2 H3 _ hgz hk ⟨E2, E3.x⟩ fun ds'' k' σ'' H'' a1 a2 => ⟨ds'', k', a1, a2⟩
      rcases hg zs[i] hmz with h | h
      · exact fin _ h
      · obtain ⟨vs', h⟩ := h [] trivial
        exact fin _ h
  · have ei : i = zs.length := by omega
    subst ei
    refine .inl ⟨by rw [List.length_map] at w1; exact w1, hd ds' k σ' H' hk ⟨E'.s, ?_⟩⟩
    have h1 := E1.x
    rw [ho k0, ← ho k] at h1
    exact h1.trans E'.x
theorem s_for {m : Md} {i0 : Nat} (E : Env m b σ H ds) (hi : GI m wi ds (zs.map e)) (hg : ∀ z ∈ zs, Tg g [i0] (e z) (u z)) (inv : Nat → List Ent → Prop) (h0 : inv 0 ds)
    (hs : ∀ b' i z ds' σ' H' (N : L2.St → Hp → Prop), zs[i]? = some z → inv i ds' → Env m b' σ' H' (u z ds') → (∀ ds'' σ'' H'', inv (i + 1) ds'' → Env m b' σ'' H'' ds'' → N σ'' H'') → tb { D with nx := N, ct := N, bk := D.nx } σ' H')
    (hd : ∀ ds' σ' H', inv zs.length ds' → Env m b σ' H' ds' → D.nx σ' H') : tFor wi g tb D σ H :=
  s_forM (κ := Unit) (fun _ => m) (fun _ => rfl) () E hi (fun z hm => .inr fun _ _ => ⟨_, hg z hm⟩) (fun i ds _ => inv i ds) h0
    (fun b' i z ds' _ σ' H' N a1 a2 a3 a4 => hs b' i z ds' σ' H' N a1 a2 a3 fun ds'' σ'' H'' c1 c2 => a4 ds'' () σ'' H'' c1 c2) (fun ds' _ σ' H' a1 a2 => hd ds' σ' H' a1 a2)
/-- with the list at p that grows -/
theorem s_forO {m : Md} {p : Addr} {ys : List Lk.D} {i0 : Nat} (E : Env (m.ow p ys) b σ H ds) (hi : GI (m.ow p ys) wi ds (zs.map e)) (hg : ∀ z ∈ zs, Tg g [i0] (e z) (u z)) (inv : Nat → List Ent → List Lk.D → Prop) (h0 : inv 0 ds ys)
    (hs : ∀ b' i z ds' ys' σ' H' (N : L2.St → Hp → Prop), zs[i]? = some z → inv i ds' ys' → Env (m.ow p ys') b' σ' H' (u z ds') → (∀ ds'' ys'' σ'' H'', inv (i + 1) ds'' ys'' → Env (m.ow p ys'') b' σ'' H'' ds'' → N σ'' H'') → tb { D with nx := N, ct := N, bk := D.nx } σ' H')
    (hd : ∀ ds' ys' σ' H', inv zs.length ds' ys' → Env (m.ow p ys') b σ' H' ds' → D.nx σ' H') : tFor wi g tb D σ H :=
  s_forM (o := p :: m.o) (κ := List Lk.D) (fun ys => m.ow p ys) (fun _ => rfl) ys E hi (fun z hm => .inr fun _ _ => ⟨_, hg z hm⟩) inv h0 hs hd
end

/-! ### a def's promise -/
/-- called with the data ds it hands back the data d, where R ds d; nothing that stood is changed -/
def spR (R : List D → D → Prop) : Sp := fun vs H Q _ => ∃ (o : List Addr) (as : List D) (d : D), R as d ∧ (∀ a ∈ o, ∃ x, H a = some x) ∧ IsAll o H as vs ∧ ∀ v H', Ex H H' → Is o H' d v → Q v H'
/-- the mode of a pure def's body: what is hidden stays as it is -/
def Md.pure (o : List Addr) (H0 : Hp) : Md where
  o := o
  J H := ∀ a ∈ o, ∃ x, H0 a = some x ∧ H a = some x
  jx H H' e j a ha := let ⟨x, h1, h2⟩ := j a ha; ⟨x, h1, e a x h2⟩
  jl H j a ha := let ⟨x, _, h2⟩ := j a ha; ⟨x, h2⟩
def ents (as : List D) (n : Nat) : List Ent := as.map Ent.im ++ List.replicate (n - as.length) .no
/-- what a body's reading must do -/
def Body (t : TS) (n : Nat) (R : List D → D → Prop) : Prop := ∀ (m : Md) (b : Hp) (σ : L2.St) (H : Hp) (as : List D) (d : D) (Q : VK), R as d → Env m b σ H (ents as n) → (∀ v H', Xv m.o b H' → m.J H' → Is m.o H' d v → Q v H') → t { nx := fun _ H' => Q .non H', rt := Q } σ H
theorem sl_start {m : Md} {H : Hp} {N : List Str} {vs : List V} {as : List D} (h : IsAll m.o H as vs) (j : m.J H) : Sl m (L2.start N vs) H (ents as N.length) := by
  have hl := h.len
  refine ⟨by unfold L2.start ents; simp [hl], fun i e he => ?_, j⟩
  unfold ents at he
  unfold L2.start
  by_cases hi : i < as.length
  · rw [List.getElem?_append_left (by simpa using hi), List.getElem?_map, List.getElem?_eq_getElem hi] at he
    cases he
    obtain ⟨v, hv, iv⟩ := h.get (List.getElem?_eq_getElem hi)
    refine ⟨some v, ?_, v, rfl, iv⟩
    rw [List.getElem?_append_left (by rw [List.length_map, hl]; exact hi), List.getElem?_map, hv] <;> rfl
  · rw [List.getElem?_append_right (by simpa using hi), List.getElem?_replicate] at he
    split at he
    · next hh =>
      cases he
      refine ⟨none, ?_, trivial⟩
      rw [List.getElem?_append_right (by rw [List.length_map, hl]; omega), List.getElem?_replicate, if_pos (by rw [List.length_map] at hh ⊢; omega)]
    · cases he
section
variable {P : Program} {w : World} {K : PySem.W.Frag} {mg : Str → Option Value} {base : Heap}
theorem fun_ok {x qual : Str} {st : Stmt} {f : Addr} {fd : FuncData} {N ps : List Str} {k : Nat} {R : List D → D → Prop} (F : Fun K x qual st f fd) (S : FnScope N ps (defScope st)) (hlen : ∀ as d, R as d → as.length = ps.length)
    (hbody : ∀ (cdv : Value) (A : Around) (outer : List PySem.Env) (s : Shared) (H : Hp) (E : XK), Room k (A.deeper (envOfC qual (defScope st) s.heap.objs.size f cdv)) →
      ∃ t, PSs (cxOf CX0 P w K mg base N qual (defScope st) f cdv A outer s H E).nox (defBody st) t ∧ Body t N.length R) : FnOk P w K mg base CX0 (k + 1) f fd ps (spR R) := by
  refine F.ok S (fun vs H Q E h => ?_) (fun cdv A outer s H vs Q E hr h => ?_)
  · obtain ⟨o, as, d, hR, _, hI, _⟩ := h
    rw [hI.len, hlen as d hR]
  · obtain ⟨o, as, d, hR, hl, hI, q⟩ := h
    obtain ⟨t, ht, hb⟩ := hbody cdv A outer s H E hr
    refine ⟨t, ht, ?_⟩
    have j0 : (Md.pure o H).J H := fun a ha => by
      obtain ⟨x, hx⟩ := hl a ha
      exact ⟨x, hx, hx⟩
    refine hb (Md.pure o H) H (L2.start N vs) H as d Q hR (Sl.env (sl_start (m := Md.pure o H) hI j0)) fun v H' x j i => q v H' (fun a y e => ?_) i
    by_cases ha : a ∈ o
    · obtain ⟨z, h1, h2⟩ := j a ha
      rw [e] at h1
      cases h1
      exact h2
    · exact x a y ha e
/-- nothing can be asked of it -/
theorem fn_none {f : Addr} {fd : FuncData} {ps : List Str} {R : List D → D → Prop} (no : ∀ as d, ¬ R as d) : FnOk P w K mg base CX0 0 f fd ps (spR R) :=
  ⟨fun vs H Q E h => by obtain ⟨o, as, d, hR, _⟩ := h; exact absurd hR (no as d), fun A outer s H args us vs Q E _ _ _ _ h => by obtain ⟨o, as, d, hR, _⟩ := h; exact absurd hR (no as d)⟩
end
/-- a call of such a def -/
theorem g_call {m : Md} {ds : List Ent} {ta : TA} {as : List D} {d : D} {R : List D → D → Prop} {E : XK} (ha : GA m ta ds as) (hR : R as d) : G m (tCall (spR R) [] E ta) ds d := fun σ H Es Q q =>
  ha σ H Es _ fun vs H1 x1 j1 i1 => ⟨m.o, as, d, hR, m.jl _ j1, by rw [List.append_nil]; exact i1, fun v H2 e i => q v H2 (x1.trans e.v) (m.jx _ _ e j1) i⟩
end Lk
set_option Elab.async false
set_option linter.all false
set_option maxRecDepth 100000
set_option maxHeartbeats 4000000
namespace Lk
open PySem PySem.Spec PyProof.Rows L2 RZ
open Evl (Ex)

/-! ### the text by places -/
def topS (i : Nat) : Stmt := PySem.Challenge.pw_latticepoints_k48_whole_boxes_of_cones.main.body.getD i (.Pass ⟨0, 0, 0, 0⟩)

/-- the def x of the module keeps the promise sp, by level k -/
def Has (P : Program) (w : World) (K : PySem.W.Frag) (mg : Str → Option Value) (base : Heap) (x : Str) (ps : List Str) (k : Nat) (sp : Sp) : Prop :=
  ∃ f fd, FnOk P w K mg base CX0 k f fd ps sp ∧ mg x = some (.ref f) ∧ PySem.W.keepIn K (.ref f) = true ∧ Binds K fd ps []
theorem pe_callH {X : Cx} {x : Str} {ps : List Str} {k j : Nat} {sp : Sp} {p pos : Pos} {e : Expr} {es : List Expr} {t : TA} (F : Has X.prog X.w X.K X.mg X.base x ps k sp) (hr : Room j X.A) (hk : k ≤ j) (hg : Gl X x)
    (ha : PA X (e :: es) t) (hdb : (x == ("__debug__" : Str)) = false := by decide) (he : starEach (e :: es) X.env = (false, eval e X.env) :: starEach es X.env := by rfl) (hpl : (backTo pos (starEach es X.env)).any (·.1) = false := by rfl) :
    PE X (.Call (.Name x p) (e :: es) [] pos) (tCall sp [] E0 t) := by
  obtain ⟨f, fd, F, hm, hkp, hb⟩ := F
  exact pe_call F (hr.mono hk) hg hm hkp hb .nil pass0 ha hdb he hpl
theorem hu64 {k : Nat} {A : Around} (hr : Room k A) : A.units + 64 < cLine := by
  have := hr.un
  omega
theorem bt_len : bootBuiltins "len" = some (.builtin "len") := by decide +kernel
theorem bt_abs : bootBuiltins "abs" = some (.builtin "abs") := by decide +kernel
theorem bt_min : bootBuiltins "min" = some (.builtin "min") := by decide +kernel
theorem bt_max : bootBuiltins "max" = some (.builtin "max") := by decide +kernel
theorem bt_sum : bootBuiltins "sum" = some (.builtin "sum") := by decide +kernel
theorem bt_sorted : bootBuiltins "sorted" = some (.builtin "sorted") := by decide +kernel
theorem bt_isinstance : bootBuiltins "isinstance" = some (.builtin "isinstance") := by decide +kernel
theorem bt_int : bootBuiltins "int" = some (.type "int") := by decide +kernel
theorem bt_bool : bootBuiltins "bool" = some (.type "bool") := by decide +kernel
theorem bt_str : bootBuiltins "str" = some (.type "str") := by decide +kernel
theorem bt_list : bootBuiltins "list" = some (.type "list") := by decide +kernel
theorem bt_tuple : bootBuiltins "tuple" = some (.type "tuple") := by decide +kernel
theorem bt_set : bootBuiltins "set" = some (.type "set") := by decide +kernel
/-- what the module's names hold -/
structure Top (mg : Str → Option Value) : Prop where
  len : mg "len" = none
  abs : mg "abs" = none
  min : mg "min" = none
  max : mg "max" = none
  sum : mg "sum" = none
  sorted : mg "sorted" = none
  isinstance : mg "isinstance" = none
  int : mg "int" = none
  bool : mg "bool" = none
  str : mg "str" = none
  list : mg "list" = none
  tuple : mg "tuple" = none
  set : mg "set" = none
  range : mg "range" = none
  zip : mg "zip" = none
  far : ∃ t, mg "FAR" = some (.int 50 t)
  farA : ∃ t, mg "FAR_APEX" = some (.int 1000 t)

theorem kit_ii : kitB "int" "int" = some true := by decide +kernel
theorem kit_ib : kitB "int" "bool" = some false := by decide +kernel
theorem kit_is : kitB "int" "str" = some false := by decide +kernel
theorem kit_it : kitB "int" "tuple" = some false := by decide +kernel
theorem kit_il : kitB "int" "list" = some false := by decide +kernel
theorem kit_tt : kitB "tuple" "tuple" = some true := by decide +kernel
theorem kit_tl : kitB "tuple" "list" = some false := by decide +kernel
theorem s_when {m : Md} {b H : Hp} {σ : L2.St} {ds : List Ent} {tt : TT} {D : Ends} {c : Bool} {tu tz : TS} (E : Env m b σ H ds) (g : GT m tt ds c) (h1 : c = true → ∀ H', Env m b σ H' ds → tu { D with nx := tz D } σ H') (h2 : c = false → ∀ H', Env m b σ H' ds → tz D σ H') : tSeq (tIfS tt tu tNext) tz D σ H :=
  s_if (D := { D with nx := tz D }) E g h1 h2
theorem s_whenL {m : Md} {b H : Hp} {σ : L2.St} {ds : List Ent} {tt : TT} {D : Ends} {c : Bool} {tu : TS} (E : Env m b σ H ds) (g : GT m tt ds c) (h1 : c = true → ∀ H', Env m b σ H' ds → tu D σ H') (h2 : c = false → ∀ H', Env m b σ H' ds → D.nx σ H') : tIfS tt tu tNext D σ H :=
  s_if E g h1 h2

section
variable {m : Md} {b H H' : Hp} {σ : L2.St} {ds : List Ent} {te ta : TE} {tt : TT} {d d2 : D} {D : Ends} {K : PySem.W.Frag} {tz : TS}
theorem q_asgX {i : Nat} {P : Lk.D → Prop} (E : Env m b σ H ds) (g : GX m te ds P) (k : ∀ d σ' H', P d → Env m b σ' H' (ds.set i (.im d)) → tz D σ' H') : tSeq (tAsg te (gName i)) tz D σ H := s_asgX (D := { D with nx := tz D }) E g k
theorem q_asg {i : Nat} (E : Env m b σ H ds) (g : G m te ds d) (k : ∀ σ' H', Env m b σ' H' (ds.set i (.im d)) → tz D σ' H') : tSeq (tAsg te (gName i)) tz D σ H := s_asg (D := { D with nx := tz D }) E g k
theorem q_par {i j : Nat} {ta tb : TE} (E : Env m b σ H ds) (ga : G m ta ds d) (gb : G m tb ds d2) (k : ∀ σ' H', Env m b σ' H' ((ds.set i (.im d)).set j (.im d2)) → tz D σ' H') : tSeq (tPar i j (tCons ta (tCons tb tNil))) tz D σ H := s_par (D := { D with nx := tz D }) E ga gb k
theorem q_parNew {i j : Nat} {ta : TE} (E : Env m b σ H ds) (ga : G m ta ds d) (k : ∀ p σ' H', p ∉ m.o → b p = none → Env (m.ow p []) b σ' H' ((ds.set i (.im d)).set j (.raw (.ref p))) → tz D σ' H') : tSeq (tPar i j (tCons ta (tCons (tLst tNil) tNil))) tz D σ H := s_parNew (D := { D with nx := tz D }) E ga k
theorem q_aug {i : Nat} {f : Int → Int → Int} {a c : Int} (E : Env m b σ H ds) (hx : ds[i]? = some (.im (.int a))) (g : G m te ds (.int c)) (k : ∀ σ' H', Env m b σ' H' (ds.set i (.im (.int (f a c)))) → tz D σ' H') : tSeq (tAug i te (ipI f)) tz D σ H := s_aug (D := { D with nx := tz D }) E hx g k
theorem q_drop (E : Env m b σ H ds) (g : G m te ds d) (k : ∀ H', Env m b σ H' ds → tz D σ H') : tSeq (tDrop te) tz D σ H := s_drop (D := { D with nx := tz D }) E g k
theorem q_unp2 {i j : Nat} (E : Env m b σ H ds) (g : G m te ds (.tup [d, d2])) (k : ∀ σ' H', Env m b σ' H' ((ds.set i (.im d)).set j (.im d2)) → tz D σ' H') : tSeq (tAsg te (gTup K 2 (gCons (gName i) (gCons (gName j) gNil)))) tz D σ H := s_unp2 (D := { D with nx := tz D }) E g k
theorem q_unp3 {i j l : Nat} {d3 : Lk.D} (E : Env m b σ H ds) (g : G m te ds (.tup [d, d2, d3])) (k : ∀ σ' H', Env m b σ' H' (((ds.set i (.im d)).set j (.im d2)).set l (.im d3)) → tz D σ' H') : tSeq (tAsg te (gTup K 3 (gCons (gName i) (gCons (gName j) (gCons (gName l) gNil))))) tz D σ H := s_unp3 (D := { D with nx := tz D }) E g k
theorem q_app {p : Addr} {ys : List Lk.D} {i : Nat} (E : Env (m.ow p ys) b σ H ds) (hi : ds[i]? = some (.raw (.ref p))) (hz : ys.length < 100000) (g : G (m.ow p ys) te ds d) (k : ∀ H', Env (m.ow p (ys ++ [d])) b σ H' ds → tz D σ H') :
    tSeq (tDrop (tBM K "list" rAppend (tVar i) (tCons te tNil))) tz D σ H := s_app (D := { D with nx := tz D }) E hi hz g k
theorem q_while {c : TT} {tb : TS} (E : Env m b σ H ds) (inv : Nat → List Ent → Prop) (k0 : Nat) (h0 : inv k0 ds)
    (hs : ∀ k ds', inv k ds' → ∃ cc, GT m c ds' cc ∧ (cc = true → ∀ σ' H' (N : L2.St → Hp → Prop), Env m b σ' H' ds' → (∀ k' ds'' σ'' H'', k' < k → inv k' ds'' → Env m b σ'' H'' ds'' → N σ'' H'') → tb { D with nx := N, ct := N, bk := tz D } σ' H') ∧ (cc = false → ∀ σ' H', Env m b σ' H' ds' → tz D σ' H')) : tSeq (tWhile c tb) tz D σ H := s_while (D := { D with nx := tz D }) E inv k0 h0 hs
variable {α : Type} {wi : TI} {g : TG} {tb : TS} {zs : List α} {e : α → Lk.D} {u : α → List Ent → List Ent}
theorem q_for {i0 : Nat} (E : Env m b σ H ds) (hi : GI m wi ds (zs.map e)) (hg : ∀ z ∈ zs, Tg g [i0] (e z) (u z)) (inv : Nat → List Ent → Prop) (h0 : inv 0 ds)
    (hs : ∀ b' i z ds' σ' H' (N : L2.St → Hp → Prop), zs[i]? = some z → inv i ds' → Env m b' σ' H' (u z ds') → (∀ ds'' σ'' H'', inv (i + 1) ds'' → Env m b' σ'' H'' ds'' → N σ'' H'') → tb { D with nx := N, ct := N, bk := tz D } σ' H')
    (hd : ∀ ds' σ' H', inv zs.length ds' → Env m b σ' H' ds' → tz D σ' H') : tSeq (tFor wi g tb) tz D σ H := s_for (D := { D with nx := tz D }) E hi hg inv h0 hs hd
theorem q_forO {p : Addr} {ys : List Lk.D} {i0 : Nat} (E : Env (m.ow p ys) b σ H ds) (hi : GI (m.ow p ys) wi ds (zs.map e)) (hg : ∀ z ∈ zs, Tg g [i0] (e z) (u z)) (inv : Nat → List Ent → List Lk.D → Prop) (h0 : inv 0 ds ys)
    (hs : ∀ b' i z ds' ys' σ' H' (N : L2.St → Hp → Prop), zs[i]? = some z → inv i ds' ys' → Env (m.ow p ys') b' σ' H' (u z ds') → (∀ ds'' ys'' σ'' H'', inv (i + 1) ds'' ys'' → Env (m.ow p ys'') b' σ'' H'' ds'' → N σ'' H'') → tb { D with nx := N, ct := N, bk := tz D } σ' H')
    (hd : ∀ ds' ys' σ' H', inv zs.length ds' ys' → Env (m.ow p ys') b σ' H' ds' → tz D σ' H') : tSeq (tFor wi g tb) tz D σ H := s_forO (D := { D with nx := tz D }) E hi hg inv h0 hs hd
end
/-! ### the rules with K said -/
section
variable {X : Cx}
theorem opk_plus (K : PySem.W.Frag) (h : X.K = K := by rfl) : OpR X (binaryOp .Add) (rPlus K) := h ▸ op_plus
theorem opk_times (K : PySem.W.Frag) (h : X.K = K := by rfl) : OpR X (binaryOp .Mult) (rTimes K) := h ▸ op_times
theorem opk_eq (K : PySem.W.Frag) (hu : X.A.units + 64 < cLine) (h : X.K = K := by rfl) : OpR X (compareOp .Eq) (rEqA K) := h ▸ op_eqA hu
theorem opk_ne (K : PySem.W.Frag) (hu : X.A.units + 64 < cLine) (h : X.K = K := by rfl) : OpR X (compareOp .NotEq) (rNeA K) := h ▸ op_neA hu
theorem opk_in (K : PySem.W.Frag) (h : X.K = K := by rfl) : OpR X (compareOp .In) (rIn K false) := h ▸ op_in_seq
theorem ixk (K : PySem.W.Frag) (h : X.K = K := by rfl) : IxR X (rIx K) := h ▸ ix_seq
theorem slk (K : PySem.W.Frag) (h : X.K = K := by rfl) : SlR X (rSl K) := h ▸ sl_any
def rLen (K : PySem.W.Frag) : List V → Hp → VK → Prop := fun xs H Q => ∃ p ys, xs = [.ref p] ∧ (SqL K H p ys ∨ SqT K H p ys) ∧ Q (.int ys.length) H
def rList (K : PySem.W.Frag) : List V → Hp → VK → Prop := fun xs H Q => ∃ p ys, xs = [.ref p] ∧ (SqL K H p ys ∨ SqT K H p ys) ∧ ∀ l, H l = none → Q (.ref l) (upd H l (.lst ys))
def rTuple (K : PySem.W.Frag) : List V → Hp → VK → Prop := fun xs H Q => ∃ p ys, xs = [.ref p] ∧ ((SqL K H p ys ∧ ∀ l, H l = none → Q (.ref l) (upd H l (.tup ys))) ∨ (SqT K H p ys ∧ Q (.ref p) H))
theorem ck_len (K : PySem.W.Frag) (h : X.K = K := by rfl) : CallR X (.builtin "len") (rLen K) := h ▸ call_len_seq
theorem ck_list (K : PySem.W.Frag) (h : X.K = K := by rfl) : CallR X (.type "list") (rList K) := h ▸ call_list_of
theorem ck_tuple (K : PySem.W.Frag) (h : X.K = K := by rfl) : CallR X (.type "tuple") (rTuple K) := h ▸ call_tuple_of
theorem ck_sum (K : PySem.W.Frag) (hc : X.calm = true) (h : X.K = K := by rfl) : CallR X (.builtin "sum") (rSum K) := h ▸ cr_sum hc
theorem ck_isi (K : PySem.W.Frag) (h : X.K = K := by rfl) : CallR X (.builtin "isinstance") (rIsiA K) := h ▸ call_isiA
theorem pik_list (K : PySem.W.Frag) {tg l : Expr} {tl : TE} (hl : PE X l tl) (h : X.K = K := by rfl) : PI X tg l (iList K tl) := h ▸ pi_list hl
theorem pik_tup (K : PySem.W.Frag) {tg l : Expr} {tl : TE} (hl : PE X l tl) (h : X.K = K := by rfl) : PI X tg l (iTup K tl) := h ▸ pi_tup hl
theorem pik_zip (K : PySem.W.Frag) {e e2 : Expr} {ta : TA} {p pos tpos : Pos} {elts : List Expr} {kk : Nat} (hg : Gl X "zip") (hm : X.mg "zip" = none) (ha : PA X [e, e2] ta)
    (hs : starEach [e, e2] X.env = (false, eval e X.env) :: starEach [e2] X.env := by rfl) (hpl : (backTo pos (starEach [e2] X.env)).any (·.1) = false := by rfl) (h : X.K = K := by rfl) :
    PI X (.Tuple elts kk tpos) (.Call (.Name "zip" p) [e, e2] [] pos) (iZipA K ta) := h ▸ pi_zipA hg hm ha hs hpl
theorem pgk_tup (K : PySem.W.Frag) {es : List Expr} {k : Nat} {pos : Pos} {t : TGs} {n : Nat} (hc : X.calm = true) (hp : PGs X es t) (hn : (assignEach es X.env).length = n := by rfl) (hst : (assignEach es X.env).findIdx? (·.1) = none := by rfl) (h : X.K = K := by rfl) : PG X (.Tuple es k pos) (gTup K n t) := h ▸ pg_tup hc hp hn hst
theorem onk_lenL {K : PySem.W.Frag} {xs : List D} : ON (rLen K) [.lst xs] (.int (xs.length : Int)) := on_lenL
theorem onk_lenT {K : PySem.W.Frag} {xs : List D} : ON (rLen K) [.tup xs] (.int (xs.length : Int)) := on_lenT
theorem onk_listL {K : PySem.W.Frag} {xs : List D} : ON (rList K) [.lst xs] (.lst xs) := on_listL
theorem onk_listT {K : PySem.W.Frag} {xs : List D} : ON (rList K) [.tup xs] (.lst xs) := on_listT
theorem onk_tupL {K : PySem.W.Frag} {xs : List D} : ON (rTuple K) [.lst xs] (.tup xs) := on_tupL
theorem onk_tupT {K : PySem.W.Frag} {xs : List D} : ON (rTuple K) [.tup xs] (.tup xs) := on_tupT
end
end Lk
set_option Elab.async false
set_option linter.all false
set_option maxRecDepth 100000
set_option maxHeartbeats 4000000
/-! sorted(..) of tuples of ints that stand in order already; set(..) of a tuple of ints -/
namespace Lk
open PySem PySem.Spec PyProof.Rows L2 RZ
open Evl (Ex)

/-- x before y -/
def ltL : List Int → List Int → Bool
  | [], [] => false
  | [], _ :: _ => true
  | _ :: _, [] => false
  | x :: xs, y :: ys => if x = y then ltL xs ys else decide (x < y)
theorem ltL_asym : ∀ x y : List Int, ltL x y = true → ltL y x = false
  | [], [], h => rfl
  | [], _ :: _, _ => rfl
  | _ :: _, [], h => nomatch h
  | x :: xs, y :: ys, h => by
    unfold ltL at h ⊢
    by_cases e : x = y
    · subst e
      rw [if_pos rfl] at h ⊢
      exact ltL_asym xs ys h
    · rw [if_neg e] at h
      rw [if_neg (fun z => e z.symm)]
      have := of_decide_eq_true h
      exact decide_eq_false (by omega)
theorem ltL_tr : ∀ x y z : List Int, ltL y x = false → ltL z y = false → ltL z x = false
  | [], _, [], _, _ => rfl
  | [], [], _ :: _, _, _ => rfl
  | [], _ :: _, _ :: _, _, _ => rfl
  | _ :: _, [], _, h, _ => nomatch h
  | _ :: _, _ :: _, [], _, h => nomatch h
  | x :: xs, y :: ys, z :: zs, h1, h2 => by
    unfold ltL at h1 h2 ⊢
    by_cases e1 : y = x
    · subst e1
      rw [if_pos rfl] at h1
      by_cases e2 : z = y
      · subst e2
        rw [if_pos rfl] at h2 ⊢
        exact ltL_tr xs ys zs h1 h2
      · rw [if_neg e2] at h2 ⊢
        exact h2
    · rw [if_neg e1] at h1
      have a := of_decide_eq_false h1
      by_cases e2 : z = y
      · subst e2
        rw [if_neg e1]
        exact decide_eq_false a
      · rw [if_neg e2] at h2
        have c := of_decide_eq_false h2
        rw [if_neg (by omega)]
        exact decide_eq_false (by omega)
section
variable {prog : Program} {w : World} {A : Around} {E : Value → Shared → Prop} {s : Shared}
theorem swoL (k : Value → List Int) : SrtO.Swo fun v u => ltL (k v) (k u) := ⟨fun x y h => ltL_asym _ _ h, fun x y z h1 h2 => ltL_tr _ _ _ h1 h2⟩
theorem lexL {Q : Bool → Shared → Prop} {b : Bool} {xs ys : List Value} {ns ms : List Int} (i : Nat) (hx : IntsAre xs ns) (hy : IntsAre ys ms) (hl : ns.length = ms.length)
    (h : Q (ltL ns ms) s) : PySem.W.KatLex prog w A b false Q (xs.zip ys) i s := by
  induction hx generalizing ys ms i with
  | nil =>
    cases hy with
    | nil => exact PySem.W.kat_nil h
    | cons q u hy => simp at hl
  | @cons p t xs ns hx ih =>
    cases hy with
    | nil => simp at hl
    | @cons q u ys ms hy =>
      have hl' : ns.length = ms.length := by simpa using hl
      show PySem.W.KatLex prog w A b false Q ((Value.int p t, Value.int q u) :: xs.zip ys) i s
      refine PySem.W.kat_cons (wpAny_eqBool_int ?_)
      unfold ltL at h
      by_cases e : p = q
      · subst e
        rw [if_pos rfl] at h
        rw [beq_self_eq_true]
        refine PySem.W.kat_yes ?_
        first
          | exact ih (i + 1) hy hl' h
          | exact ih _ _ (i + 1) hy hl' h
      · rw [if_neg e] at h
        rw [show (p == q) = false from beq_eq_false_iff_ne.mpr e]
        exact PySem.W.kat_no (TS.oneLt_ints _ h)
theorem tupL_cmp {vs : List Value} {k : Value → List Int} {d : Nat} (hp : ∀ v ∈ vs, TS.TupInts s.heap v (k v) ∧ (k v).length = d) : SrtO.Cmp prog w A s (tuples' true) (fun p => p.1 ∈ vs) (SrtO.lt2 fun v u => ltL (k v) (k u)) := by
  intro p q hm hm'
  obtain ⟨⟨a, xs, e1, ⟨o, ho, hc, n, hd⟩, i1⟩, l1⟩ := hp _ hm
  obtain ⟨⟨a', xs', e1', ⟨o', ho', hc', n', hd'⟩, i1'⟩, l1'⟩ := hp _ hm'
  show wpAny (model prog w) A (keyLt' (tuples' true) p.1 q.1) (fun r s' => s' = s ∧ r = ltL (k p.1) (k q.1)) (fun _ _ => False) s
  generalize k p.1 = ns at i1 l1 ⊢
  generalize k q.1 = ms at i1' l1' ⊢
  rw [e1, e1']
  refine PySem.W.kat_lt ho hd ho' hd' ?_
  have z1 : xs.size = ns.length := by
    have := i1.length
    rwa [Array.length_toList] at this
  have z2 : xs'.size = ms.length := by
    have := i1'.length
    rwa [Array.length_toList] at this
  rw [show decide (xs.size < xs'.size) = false from decide_eq_false (by omega)]
  exact lexL 0 i1 i1' (by omega) ⟨rfl, rfl⟩
theorem firstsL {h : Heap} {d : Nat} (hd : 1 ≤ d) (k : Value → List Int) : ∀ vs : List Value, (∀ v ∈ vs, TS.TupInts h v (k v) ∧ (k v).length = d) → ∃ fs, PySem.W.KatTups h vs fs ∧ fs.length = vs.length ∧ ∀ f, f ∈ fs → ∃ n t, f = Value.int n t
  | [], _ => ⟨[], PySem.W.KatTups.nil, rfl, fun f hf => by simp at hf⟩
  | v :: vs, x => by
    obtain ⟨fs, kk, hl, hi⟩ := firstsL hd k vs fun u hu => x u (List.mem_cons_of_mem _ hu)
    obtain ⟨⟨a, xs, e, ⟨o, ho, hc, n, hdt⟩, i⟩, hn⟩ := x v (List.mem_cons_self ..)
    subst e
    generalize k (Value.ref a) = ns at i hn
    cases i' : xs.toList with
    | nil =>
      rw [i'] at i
      have l := i.length
      rw [List.length_nil, hn] at l
      omega
    | cons y ys =>
      rw [i'] at i
      cases i with
      | @cons p t _ ns i2 =>
        refine ⟨.int p t :: fs, PySem.W.KatTups.cons ho hc hdt (by rw [← Array.getElem?_toList, i'] <;> rfl) kk, by rw [List.length_cons, List.length_cons, hl], fun f hm => ?_⟩
        rcases List.mem_cons.mp hm with rfl | hm
        · exact ⟨p, t, rfl⟩
        · exact hi f hm
theorem tupL_sortable {a : Addr} {vs : List Value} {k : Value → List Int} {d : Nat} (hd : 1 ≤ d) (h0 : 0 < vs.length) (hp : ∀ v ∈ vs, TS.TupInts s.heap v (k v) ∧ (k v).length = d) (ha : ∀ o, s.heap.get? a = some o → o.cls ≠ .type "tuple") : SrtO.SortableO prog w A s a vs fun v u => ltL (k v) (k u) := by
  intro h' keep
  have hp' : ∀ v ∈ vs, TS.TupInts h' v (k v) ∧ (k v).length = d := fun v hm => ⟨(hp v hm).1.keeps fun b o e c => keep b o (fun z => by subst z; exact ha o e c) e, (hp v hm).2⟩
  obtain ⟨fs, h1, h2, h3⟩ := firstsL hd k vs hp'
  refine ⟨tuples' true, fun Q E hq => ?_, tupL_cmp (s := { s with heap := h' }) hp'⟩
  refine PySem.W.kat_kind (T := .type "int") h1 (by omega) (fun f hm => ?_) (by rfl) ?_
  · obtain ⟨x, t, rfl⟩ := h3 f hm
    exact PySem.W.Looks.now
  · have e : (Value.type "int" != Value.type "tuple") = true := by first | decide +kernel | rfl | decide
    rw [e]
    exact hq
end
/-- sorted(xs): tuples of d ints that stand in order -/
def rSortA : List V → Hp → VK → Prop := fun vs H Q => ∃ (a : Addr) (us : List V) (k : V → List Int) (d : Nat), vs = [V.ref a] ∧ H a = some (.lst us) ∧ 1 ≤ d ∧ (∀ u ∈ us, (∃ t, u = V.ref t ∧ H t = some (.tup ((k u).map V.int))) ∧ (k u).length = d) ∧
  us.Pairwise (fun x y => ltL (k y) (k x) = false) ∧ ∀ p, H p = none → Q (.ref p) (upd H p (.lst us))
section
variable {X : Cx}
theorem cr_sortA : CallR X (.builtin "sorted") rSortA := by
  intro pins s σ H vs us Q I r h
  obtain ⟨a, xs, k, d, rfl, hs, hd, hx, hord, q⟩ := h
  obtain ⟨its, rv, hl, hz⟩ := I.list (SqL.of hs)
  obtain ⟨u, rfl, ru⟩ := vals1 r
  obtain rfl : u = Value.ref a := ru
  obtain ⟨e1, e2⟩ := refs_back rv fun x m => by
    obtain ⟨⟨t, e, _⟩, _⟩ := hx x m
    exact ⟨t, e⟩
  have hin : ∀ v ∈ its, TS.TupInts s.heap v (k (backV v)) ∧ (k (backV v)).length = d := fun v hv => by
    obtain ⟨t, rfl⟩ := e2 v hv
    have hm : V.ref t ∈ xs := by rw [e1]; exact List.mem_map.mpr ⟨_, hv, rfl⟩
    obtain ⟨⟨t', e, ht⟩, hn⟩ := hx _ hm
    cases e
    exact ⟨tupI_raw I (SqT.of ht), hn⟩
  refine SrtO.sorted_ord (swoL fun u => k (backV u)) hl.isList (by rw [← rv.length]; exact hz) (fun h2 h₁ a' ha kk => ?_) fun out h1 h2 => ?_
  · refine tupL_sortable (s := { s with heap := h₁ }) hd (by omega) (fun v hm => ⟨(hin v hm).1.keeps fun b o e _ => (kk b o e).2, (hin v hm).2⟩) fun o e => ?_
    have e' : some o = some (seqObj "list" its.toArray 0) := e.symm.trans ha
    cases e'
    intro c
    exact absurd (Value.type.inj c) (by decide)
  · have hs0 : SrtO.Srtd (fun v u => ltL (k (backV v)) (k (backV u))) its := by
      rw [e1] at hord
      exact List.pairwise_map.mp hord
    have eo : out = its := SrtO.stb_uniq (swoL fun u => k (backV u)) h1 hs0 h2
    subst eo
    obtain ⟨ep, he'⟩ := PyProof.Rows.sortedAll_at s.heap out out.toArray
    exact ⟨.ref _, upd H (s.heap.objs.size + 1) (.lst xs), I.laid (t' := s.toks) (fun _ _ => PyProof.Rows.sortedAll_old) (Nat.le_succ _) ⟨hz, out, ep, rv, he'⟩, rfl, q _ (I.hok.fresh (Nat.le_succ _))⟩
/-- set(t), t a tuple of ints -/
def rSetT (K : PySem.W.Frag) (w : World) : List V → Hp → VK → Prop := fun vs H Q => ∃ (a : Addr) (ns : List Int), vs = [V.ref a] ∧ SqT K H a (ns.map V.int) ∧ ns.length ≤ 1000 ∧ ∀ (p : Addr) (c : Nat), c ≤ ns.length → H p = none → Q (.ref p) (upd H p (SetO w p (fun j => decide (j ∈ ns)) c))
theorem cr_setT (hc : X.calm = true) : CallR X (.type "set") (rSetT X.K X.w) := by
  intro pins s σ H vs us Q I r h
  obtain ⟨a, ns, rfl, hs, hl, q⟩ := h
  obtain ⟨its, rv, ht, hz⟩ := I.tuple hs
  obtain ⟨u, rfl, ru⟩ := vals1 r
  obtain rfl : u = Value.ref a := ru
  refine call_set_tupI ns (I.ok.hd hc) (show s.heap.IsTuple a its.toArray from ht) (by simpa using rv.ints) (by unfold scanBound; omega) fun h' tk c R hcl kk => ?_
  have hf : H s.heap.objs.size = none := I.hok.fresh (Nat.le_refl _)
  exact ⟨.ref s.heap.objs.size, _, I.laid (t' := tk) kk (Nat.le_refl _) (setO_new R), rfl, q _ c hcl hf⟩
def rSortX (w : World) : List V → Hp → VK → Prop := fun vs H Q => rSortA vs H Q ∨ rSortedSet w vs H Q
theorem cr_sortedX (w : World) (hc : X.calm = true) (h : X.w = w := by rfl) : CallR X (.builtin "sorted") (rSortX w) := by
  intro pins s σ H xs us Q I r q
  rcases q with q | q
  · exact cr_sortA pins s σ H xs us Q I r q
  · exact (h ▸ cr_sortedSet hc : CallR X (.builtin "sorted") (rSortedSet w)) pins s σ H xs us Q I r q
theorem cr_setX (K : PySem.W.Frag) (w : World) (hc : X.calm = true) (h : X.K = K := by rfl) (h2 : X.w = w := by rfl) : CallR X (.type "set") (rSetT K w) := by
  subst h
  subst h2
  exact cr_setT hc
end
/-! ### as data -/
theorem on_sort {w : World} {d : Nat} {xss : List (List Int)} (hd : 1 ≤ d) (hl : ∀ xs ∈ xss, xs.length = d) (ho : xss.Pairwise fun x y => ltL y x = false) : ON (rSortX w) [.lst (xss.map tI)] (.lst (xss.map tI)) := fun o H vs l hv Q q => by
  obtain ⟨u, r, rfl, ⟨p, us, rfl, n1, e1, a1⟩, rfl⟩ := hv
  classical
  -- what stands at each address
  let k : V → List Int := fun v => match v with
    | .ref t => match H t with
      | some (.tup ws) => ws.map fun z => match z with
        | .int i => i
        | _ => 0
      | _ => []
    | _ => []
  have hk : ∀ (xs : List Int) (v : V), Is o H (tI xs) v → (∃ t, v = V.ref t ∧ H t = some (.tup (xs.map V.int))) ∧ k v = xs := fun xs v hv => by
    obtain ⟨t, ws, rfl, n2, e2, a2⟩ := hv
    rw [a2.ints] at e2
    refine ⟨⟨t, rfl, e2⟩, ?_⟩
    show (match H t with
      | some (.tup ws) => ws.map fun z => match z with
        | .int i => i
        | _ => 0
      | _ => []) = xs
    rw [e2]
    show (xs.map V.int).map _ = xs
    rw [List.map_map]
    conv => rhs; rw [← List.map_id xs]
    rfl
  refine .inl ⟨p, us, k, d, rfl, e1, hd, fun u hu => ?_, ?_, fun t ht => q _ _ (Ex.new ht) ⟨t, us, rfl, nin l ht, upd_same, a1.mono (Ex.new ht).v⟩⟩
  · obtain ⟨i, hi⟩ := List.getElem?_of_mem hu
    obtain ⟨dd, hdd, iu⟩ := a1.back hi
    rw [List.getElem?_map] at hdd
    cases hx : xss[i]? with
    | none =>
      rw [hx] at hdd
      cases hdd
    | some xs =>
      rw [hx] at hdd
      cases hdd
      obtain ⟨h1, h2⟩ := hk xs u iu
      rw [h2]
      exact ⟨h1, hl xs (List.mem_of_getElem? hx)⟩
  · have hmap : us.map k = xss := by
      apply List.ext_getElem?
      intro i
      rw [List.getElem?_map]
      cases hx : xss[i]? with
      | none =>
        have hlen := a1.len
        rw [List.length_map] at hlen
        rw [List.getElem?_eq_none_iff] at hx
        rw [List.getElem?_eq_none (by omega)] <;> rfl
      | some xs =>
        obtain ⟨v, hv, iv⟩ := a1.get (i := i) (d := tI xs) (by rw [List.getElem?_map, hx] <;> rfl)
        rw [hv, Option.map_some, (hk xs v iv).2]
    rw [← hmap] at ho
    exact List.pairwise_map.mp ho
theorem asc_ext : ∀ xs ys : List Int, xs.Pairwise (· < ·) → ys.Pairwise (· < ·) → (∀ k, k ∈ xs ↔ k ∈ ys) → xs = ys
  | [], [], _, _, _ => rfl
  | [], y :: ys, _, _, h => absurd ((h y).mpr List.mem_cons_self) (by simp)
  | x :: xs, [], _, _, h => absurd ((h x).mp List.mem_cons_self) (by simp)
  | x :: xs, y :: ys, hx, hy, h => by
    obtain ⟨hx1, hx2⟩ := List.pairwise_cons.mp hx
    obtain ⟨hy1, hy2⟩ := List.pairwise_cons.mp hy
    have e : x = y := by
      rcases List.mem_cons.mp ((h x).mp List.mem_cons_self) with z | z
      · exact z
      · rcases List.mem_cons.mp ((h y).mpr List.mem_cons_self) with z2 | z2
        · exact z2.symm
        · have := hy1 x z
          have := hx1 y z2
          omega
    subst e
    rw [asc_ext xs ys hx2 hy2 fun k => ?_]
    constructor
    · intro hk
      rcases List.mem_cons.mp ((h k).mp (List.mem_cons_of_mem _ hk)) with z | z
      · have := hx1 k hk
        omega
      · exact z
    · intro hk
      rcases List.mem_cons.mp ((h k).mpr (List.mem_cons_of_mem _ hk)) with z | z
      · have := hy1 k hk
        omega
      · exact z
/-- sorted(set(t)), t ascending: its items as a list -/
theorem g_sortSet {m : Md} {ds : List Ent} {ta : TE} {K : PySem.W.Frag} {w : World} {ns : List Int} (ha : G m ta ds (tI ns)) (hl : ns.length ≤ 60) (ho : ns.Pairwise (· < ·)) :
    G m (tCB (rSortX w) (tCons (tCB (rSetT K w) (tCons ta tNil)) tNil)) ds (lI ns) := fun σ H E Q q => ha σ H E _ fun v H1 x1 j1 i1 => by
  obtain ⟨p, us, rfl, n1, e1, a1⟩ := i1
  rw [a1.ints] at e1
  refine ⟨p, ns, rfl, SqT.of e1, by omega, fun t c hc ht => .inr ⟨t, _, c, rfl, upd_same, by omega, fun ms u hms hmem hlen hu => ?_⟩⟩
  have e : ms = ns := asc_ext ms ns hms ho fun k => by
    rw [hmem k]
    simp
  subst e
  have x2 : Ex H1 (upd (upd H1 t (SetO w t (fun j => decide (j ∈ ms)) c)) u (.lst (ms.map V.int))) := (Ex.new ht).trans (Ex.new hu)
  refine q _ _ (x1.trans x2.v) (m.jx _ _ x2 j1) ⟨u, _, rfl, ?_, upd_same, IsAll.ofInts ms⟩
  refine nin (m.jl _ (m.jx _ _ (Ex.new ht) j1)) hu
end Lk
set_option Elab.async false
set_option linter.all false
set_option maxRecDepth 100000
set_option maxHeartbeats 4000000
namespace Lk
open PySem PySem.Spec PyProof.Rows L2 RZ
open Evl (Ex)
section
variable {P : Program} {w : World} {K : PySem.W.Frag} {mg : Str → Option Value} {base : Heap}
/-! is_in, gcd, reduced, more, is_kept -/
def R_is_in (as : List D) (d : D) : Prop := ∃ x lo hi : Int, as = [.int x, .int lo, .int hi] ∧ d = .bl (decide (lo ≤ x) && decide (x ≤ hi))
theorem len_is_in {as : List D} {d : D} (h : R_is_in as d) : as.length = 3 := by
  obtain ⟨x, lo, hi, rfl, _⟩ := h
  rfl
abbrev s_is_in : Stmt := topS 4
theorem sc_is_in : FnScope ["value", "least", "most"] ["value", "least", "most"] (defScope s_is_in) := ⟨rfl, rfl, rfl, by decide +kernel, rfl, by decide +kernel, by decide +kernel⟩
-- slots: 0 value, 1 least, 2 most
theorem ok_is_in {f : Addr} {fd : FuncData} (F : Fun K "is_in" "is_in" s_is_in f fd) (bd : Binds K fd ["value", "least", "most"] []) (mgf : mg "is_in" = some (.ref f)) (T : Top mg)  :
    Has P w K mg base "is_in" ["value", "least", "most"] 1 (spR R_is_in) := by
  have nd := sc_is_in.nd
  refine ⟨f, fd, fun_ok F sc_is_in (fun as d h => ?_) (fun cdv A outer s H E hr => ?_), mgf, F.kp, bd⟩
  · exact len_is_in h
  refine ⟨_, (pss_one (ps_ret (pe_and (pe_callB (ck_isi K) (by rfl) T.isinstance bt_isinstance (pa_cons (pv 0) (pa_cons (pe_bltn (v := .ty "int") (by rfl) T.int bt_int rfl) pa_nil))) (pe_and (pe_not (pe_callB (ck_isi K) (by rfl) T.isinstance bt_isinstance (pa_cons (pv 0) (pa_cons (pe_bltn (v := .ty "bool") (by rfl) T.bool bt_bool rfl) pa_nil)))) (pe_one (pe_chain op_le op_le (pv 1) (pv 0) (pv 2))))))), ?_⟩
  rintro m b σ H as d Q ⟨x, lo, hi, rfl, rfl⟩ Ev q
  refine s_ret Ev (G.is (g_andV (g_cb (ga_cons (g_var rfl) (ga_cons g_ty ga_nil)) (on_isi (c := true) (fun _ h => nomatch h) kit_ii)) fun _ =>
    g_andV (g_notV (g_cb (ga_cons (g_var rfl) (ga_cons g_ty ga_nil)) (on_isi (c := false) (fun _ h => nomatch h) kit_ib))) fun _ =>
      g_chain (g_var rfl) (g_var rfl) (fun _ => g_var rfl) o2_le o2_le) rfl) q

def R_gcd (as : List D) (d : D) : Prop := ∃ x y : Int, as = [.int x, .int y] ∧ d = .int (Int.gcd x y : Nat)
theorem len_gcd {as : List D} {d : D} (h : R_gcd as d) : as.length = 2 := by
  obtain ⟨x, y, rfl, _⟩ := h
  rfl
theorem fmod_nat (x y : Nat) : Int.fmod (x : Int) (y : Int) = ((x % y : Nat) : Int) := by
  rw [Int.fmod_eq_emod_of_nonneg _ (by omega)] <;> rfl
abbrev s_gcd : Stmt := topS 5
theorem sc_gcd : FnScope ["one", "other"] ["one", "other"] (defScope s_gcd) := ⟨rfl, rfl, rfl, by decide +kernel, rfl, by decide +kernel, by decide +kernel⟩
-- slots: 0 one, 1 other
theorem ok_gcd {f : Addr} {fd : FuncData} (F : Fun K "gcd" "gcd" s_gcd f fd) (bd : Binds K fd ["one", "other"] []) (mgf : mg "gcd" = some (.ref f)) (T : Top mg)  :
    Has P w K mg base "gcd" ["one", "other"] 1 (spR R_gcd) := by
  have nd := sc_gcd.nd
  refine ⟨f, fd, fun_ok F sc_gcd (fun as d h => ?_) (fun cdv A outer s H E hr => ?_), mgf, F.kp, bd⟩
  · exact len_gcd h
  refine ⟨_, (pss_cons (ps_par (i := 0) (j := 1) (by rfl) nd rfl rfl (by decide) rfl rfl (pa_cons (pe_callB call_abs (by rfl) T.abs bt_abs (pa_cons (pv 0) pa_nil)) (pa_cons (pe_callB call_abs (by rfl) T.abs bt_abs (pa_cons (pv 1) pa_nil)) pa_nil)) (by rfl))
      (pss_cons (ps_while PassesOwn.never (pt_cmpR (opk_ne K (hu64 hr)) (pv 1) pe_int (nomark _)) (pss_one (ps_par (i := 0) (j := 1) (by rfl) nd rfl rfl (by decide) rfl rfl (pa_cons (pv 1) (pa_cons (pe_op op_modN (pv 0) (pv 1)) pa_nil)) (by rfl))))
      (pss_one (ps_ret (pv 0))))), ?_⟩
  rintro m b σ H as d Q ⟨x, y, rfl, rfl⟩ Ev q
  refine seq (s_par Ev (g_cb (ga_cons (g_var rfl) ga_nil) on_abs) (g_cb (ga_cons (g_var rfl) ga_nil) on_abs) fun σ1 H1 E1 => ?_)
  refine seq (s_while E1 (fun k ds' => ∃ u v : Nat, ds' = [.im (.int (u : Int)), .im (.int (v : Int))] ∧ k = v ∧ Nat.gcd u v = Int.gcd x y) y.natAbs ⟨x.natAbs, y.natAbs, rfl, rfl, rfl⟩ ?_)
  rintro v ds' ⟨u, v', rfl, hv', hg⟩
  subst hv'
  refine ⟨_, gt_test (g_op (g_var rfl) g_int o2_neI), fun hc σ' H' N E' hN => ?_, fun hc σ' H' E' => ?_⟩
  · have hv : v ≠ 0 := by
      intro z
      subst z
      simp at hc
    refine s_par E' (g_var rfl) (g_op (g_var rfl) (g_var rfl) (o2_mod (by omega))) fun σ2 H2 E2 => ?_
    refine hN (u % v) _ _ _ (Nat.mod_lt _ (by omega)) ⟨v, u % v, ?_, rfl, ?_⟩ E2
    · rw [fmod_nat] <;> rfl
    · rw [← hg, Nat.gcd_comm u v, Nat.gcd_rec v u, Nat.gcd_comm]
  · have hv : v = 0 := by simpa using hc
    subst hv
    refine s_ret E' (G.is (g_var rfl) ?_) q
    rw [← hg, Nat.gcd_zero_right]

/-- a fraction in its least terms -/
def redC (n d : Int) : Int := if d < 0 then -((Int.gcd n d : Nat) : Int) else ((Int.gcd n d : Nat) : Int)
def red (n d : Int) : Int × Int := (n.fdiv (redC n d), d.fdiv (redC n d))
def R_reduced (as : List D) (d : D) : Prop := ∃ x y : Int, as = [.int x, .int y] ∧ y ≠ 0 ∧ y.natAbs < 1000000 ∧ d = .tup [.int (red x y).1, .int (red x y).2]
theorem len_reduced {as : List D} {d : D} (h : R_reduced as d) : as.length = 2 := by
  obtain ⟨x, y, rfl, _⟩ := h
  rfl
theorem gcd_le {x y : Int} (hy : y ≠ 0) : Int.gcd x y ≤ y.natAbs := Nat.le_of_dvd (by omega) (Int.gcd_dvd_natAbs_right x y)
theorem gcd_pos {x y : Int} (hy : y ≠ 0) : 0 < Int.gcd x y := Int.gcd_pos_of_ne_zero_right x hy
abbrev s_reduced : Stmt := topS 6
theorem sc_reduced : FnScope ["numerator", "denominator", "common"] ["numerator", "denominator"] (defScope s_reduced) := ⟨rfl, rfl, rfl, by decide +kernel, rfl, by decide +kernel, by decide +kernel⟩
-- slots: 0 numerator, 1 denominator, 2 common
theorem ok_reduced {f : Addr} {fd : FuncData} (F : Fun K "reduced" "reduced" s_reduced f fd) (bd : Binds K fd ["numerator", "denominator"] []) (mgf : mg "reduced" = some (.ref f)) (T : Top mg) (h_gcd : Has P w K mg base "gcd" ["one", "other"] 1 (spR R_gcd)) :
    Has P w K mg base "reduced" ["numerator", "denominator"] 2 (spR R_reduced) := by
  have nd := sc_reduced.nd
  refine ⟨f, fd, fun_ok F sc_reduced (fun as d h => ?_) (fun cdv A outer s H E hr => ?_), mgf, F.kp, bd⟩
  · exact len_reduced h
  refine ⟨_, (pss_cons (ps_set (i := 2) nd rfl (Or.inl rfl) (pe_callH h_gcd hr (by decide) (by rfl) (pa_cons (pv 0) (pa_cons (pv 1) pa_nil))))
      (pss_cons (ps_if (pt_cmpR op_lt (pv 1) pe_int (nomark _)) (pss_one (ps_set (i := 2) nd rfl (Or.inl rfl) (pe_un un_neg (pv 2)))) pss_nil)
      (pss_one (ps_ret (pe_tup (pa_cons (pe_op op_fdivA (pv 0) (pv 2)) (pa_cons (pe_op op_fdivA (pv 1) (pv 2)) pa_nil))))))), ?_⟩
  rintro m b σ H as d Q ⟨x, y, rfl, hy, hs, rfl⟩ Ev q
  have g1 := gcd_le (x := x) hy
  have g2 := gcd_pos (x := x) hy
  refine seq (s_asg Ev (g_call (ga_cons (g_var rfl) (ga_cons (g_var rfl) ga_nil)) ⟨x, y, rfl, rfl⟩) fun σ1 H1 E1 => ?_)
  have fin : ∀ (σ2 : L2.St) (H2 : Hp), Env m b σ2 H2 [.im (.int x), .im (.int y), .im (.int (redC x y))] → tRet (tTup (tCons (tOp rFdiv (tVar 0) (tVar 2)) (tCons (tOp rFdiv (tVar 1) (tVar 2)) tNil))) { nx := fun _ H' => Q .non H', rt := Q } σ2 H2 := fun σ2 H2 E2 => by
    have h0 : redC x y ≠ 0 := by
      unfold redC
      split <;> omega
    have h1 : (redC x y).natAbs < 1073741824 := by
      unfold redC
      split <;> omega
    exact s_ret E2 (g_tup (ga_cons (g_op (g_var rfl) (g_var rfl) (o2_fdiv h0 h1)) (ga_cons (g_op (g_var rfl) (g_var rfl) (o2_fdiv h0 h1)) ga_nil)) (by simp)) q
  refine seq (s_if E1 (gt_test (g_op (g_var rfl) g_int o2_lt)) (fun hc H2 E2 => ?_) (fun hc H2 E2 => ?_))
  · have hc' : y < 0 := by simpa using hc
    refine s_asg E2 (g_un (g_var rfl) o1_neg) fun σ3 H3 E3 => fin σ3 H3 ?_
    have e : redC x y = -((Int.gcd x y : Nat) : Int) := if_pos hc'
    rw [e]
    exact E3
  · have hc' : ¬ y < 0 := by simpa using hc
    refine fin _ H2 ?_
    have e : redC x y = ((Int.gcd x y : Nat) : Int) := if_neg hc'
    rw [e]
    exact E2

def R_more (as : List D) (d : D) : Prop := ∃ xs ys : List Int, as = [tI xs, tI ys] ∧ xs.length ≤ 1000 ∧ d = tI (List.zipWith (· + ·) xs ys)
theorem len_more {as : List D} {d : D} (h : R_more as d) : as.length = 2 := by
  obtain ⟨x, y, rfl, _⟩ := h
  rfl
def pairD (p : Int × Int) : D := .tup [.int p.1, .int p.2]
theorem zip_pair (xs ys : List Int) : List.zipWith (fun x y => D.tup [x, y]) (xs.map D.int) (ys.map D.int) = (xs.zip ys).map pairD := by
  rw [List.zipWith_map, List.zip, List.map_zipWith] <;> rfl
abbrev s_more : Stmt := topS 8
theorem sc_more : FnScope ["one", "other", "x", "y"] ["one", "other"] (defScope s_more) := ⟨rfl, rfl, rfl, by decide +kernel, rfl, by decide +kernel, by decide +kernel⟩
-- slots: 0 one, 1 other, 2 x, 3 y
theorem ok_more {f : Addr} {fd : FuncData} (F : Fun K "more" "more" s_more f fd) (bd : Binds K fd ["one", "other"] []) (mgf : mg "more" = some (.ref f)) (T : Top mg)  :
    Has P w K mg base "more" ["one", "other"] 1 (spR R_more) := by
  have nd := sc_more.nd
  refine ⟨f, fd, fun_ok F sc_more (fun as d h => ?_) (fun cdv A outer s H E hr => ?_), mgf, F.kp, bd⟩
  · exact len_more h
  refine ⟨_, (pss_one (ps_ret (pe_callTy (ck_tuple K) (by rfl) T.tuple bt_tuple (pa_cons (pe_lc (own := [("x", 2), ("y", 3)]) (g := gTup K 2 (gCons (gName 2) (gCons (gName 3) gNil))) (by rfl) nd (pik_zip K (by rfl) T.zip (pa_cons (pv 0) (pa_cons (pv 1) pa_nil))) (blkOk_by (own := [("x", 2), ("y", 3)]) (by kernel_rfl)) (fun _ _ _ _ _ => (pgk_tup K (by rfl) (pgs_cons (pg_name (i := 2) nd rfl (Or.inl rfl)) (pgs_cons (pg_name (i := 3) nd rfl (Or.inl rfl)) pgs_nil)))) (fun _ _ _ _ _ => pts_nil) (fun _ _ _ _ _ => (pe_op (opk_plus K) (pv 2) (pv 3)))) pa_nil)))), ?_⟩
  rintro m b σ H as d Q ⟨xs, ys, rfl, hl, rfl⟩ Ev q
  refine s_ret Ev (G.is (g_cb (ga_cons (g_lcA (zs := xs.zip ys) (e := pairD) (u := fun p ds => (ds.set 2 (.im (.int p.1))).set 3 (.im (.int p.2))) (fun p => D.int (p.1 + p.2))
    ((gi_zipT (K := K) (ga_cons (g_var rfl) (ga_cons (g_var rfl) ga_nil))).is (zip_pair xs ys)) (by rw [List.length_zip]; omega) (fun z _ => tg_pair (K := K)) (fun p acc z _ => g_op (g_var rfl) (g_var rfl) o2_addI)) ga_nil) onk_tupL) ?_) q
  show D.tup _ = D.tup _
  congr 1
  rw [List.map_zipWith, List.zip, List.map_zipWith]

def R_is_kept (as : List D) (d : D) : Prop := ∃ (x y : Int) (c : Bool), as = [.tup [.int x, .int y], .bl c] ∧ d = .bl (if c = true then decide (0 < x) && decide (x ≤ y) else decide (0 ≤ x) && decide (x < y))
theorem len_is_kept {as : List D} {d : D} (h : R_is_kept as d) : as.length = 2 := by
  obtain ⟨x, y, c, rfl, _⟩ := h
  rfl
abbrev s_is_kept : Stmt := topS 20
theorem sc_is_kept : FnScope ["weight", "is_open"] ["weight", "is_open"] (defScope s_is_kept) := ⟨rfl, rfl, rfl, by decide +kernel, rfl, by decide +kernel, by decide +kernel⟩
-- slots: 0 weight, 1 is_open
theorem ok_is_kept {f : Addr} {fd : FuncData} (F : Fun K "is_kept" "is_kept" s_is_kept f fd) (bd : Binds K fd ["weight", "is_open"] []) (mgf : mg "is_kept" = some (.ref f)) (T : Top mg)  :
    Has P w K mg base "is_kept" ["weight", "is_open"] 1 (spR R_is_kept) := by
  have nd := sc_is_kept.nd
  refine ⟨f, fd, fun_ok F sc_is_kept (fun as d h => ?_) (fun cdv A outer s H E hr => ?_), mgf, F.kp, bd⟩
  · exact len_is_kept h
  refine ⟨_, (pss_cons (ps_if (pt_val (pv 1)) (pss_one (ps_ret (pe_chain op_lt op_le pe_int (pe_ix (ixk K) (pv 0) pe_int (fun _ _ => rfl)) (pe_ix (ixk K) (pv 0) pe_int (fun _ _ => rfl))))) pss_nil)
      (pss_one (ps_ret (pe_chain op_le op_lt pe_int (pe_ix (ixk K) (pv 0) pe_int (fun _ _ => rfl)) (pe_ix (ixk K) (pv 0) pe_int (fun _ _ => rfl)))))), ?_⟩
  rintro m b σ H as d Q ⟨x, y, c, rfl, rfl⟩ Ev q
  refine seq (s_if Ev (gt_B (g_var rfl)) (fun hc H2 E2 => ?_) (fun hc H2 E2 => ?_))
  · refine s_ret E2 (G.is (g_chain g_int (g_op (g_var rfl) g_int (o2_ixT (by decide) rfl)) (fun _ => g_op (g_var rfl) g_int (o2_ixT (by decide) rfl)) o2_lt o2_le) ?_) q
    rw [if_pos hc] <;> rfl
  · refine s_ret E2 (G.is (g_chain g_int (g_op (g_var rfl) g_int (o2_ixT (by decide) rfl)) (fun _ => g_op (g_var rfl) g_int (o2_ixT (by decide) rfl)) o2_le o2_lt) ?_) q
    rw [if_neg (by rw [hc]; decide)] <;> rfl
end
end Lk
set_option Elab.async false
set_option linter.all false
set_option maxRecDepth 100000
set_option maxHeartbeats 4000000
namespace Lk
open PySem PySem.Spec PyProof.Rows L2 RZ
open Evl (Ex)
section
variable {P : Program} {w : World} {K : PySem.W.Frag} {mg : Str → Option Value} {base : Heap}
/-! _law_gcd, primitive, is_vector, determinant -/
def R_law_gcd := R_gcd
theorem len_law_gcd {as : List D} {d : D} (h : R_law_gcd as d) : as.length = 2 := len_gcd h
abbrev s_law_gcd : Stmt := topS 26
theorem sc_law_gcd : FnScope ["_law_one", "_law_other"] ["_law_one", "_law_other"] (defScope s_law_gcd) := ⟨rfl, rfl, rfl, by decide +kernel, rfl, by decide +kernel, by decide +kernel⟩
-- slots: 0 _law_one, 1 _law_other
theorem ok_law_gcd {f : Addr} {fd : FuncData} (F : Fun K "_law_gcd" "_law_gcd" s_law_gcd f fd) (bd : Binds K fd ["_law_one", "_law_other"] []) (mgf : mg "_law_gcd" = some (.ref f)) (T : Top mg)  :
    Has P w K mg base "_law_gcd" ["_law_one", "_law_other"] 1 (spR R_law_gcd) := by
  have nd := sc_law_gcd.nd
  refine ⟨f, fd, fun_ok F sc_law_gcd (fun as d h => ?_) (fun cdv A outer s H E hr => ?_), mgf, F.kp, bd⟩
  · exact len_law_gcd h
  refine ⟨_, (pss_cons (ps_par (i := 0) (j := 1) (by rfl) nd rfl rfl (by decide) rfl rfl (pa_cons (pe_callB call_abs (by rfl) T.abs bt_abs (pa_cons (pv 0) pa_nil)) (pa_cons (pe_callB call_abs (by rfl) T.abs bt_abs (pa_cons (pv 1) pa_nil)) pa_nil)) (by rfl))
      (pss_cons (ps_while PassesOwn.never (pt_cmpR (opk_ne K (hu64 hr)) (pv 1) pe_int (nomark _)) (pss_one (ps_par (i := 0) (j := 1) (by rfl) nd rfl rfl (by decide) rfl rfl (pa_cons (pv 1) (pa_cons (pe_op op_modN (pe_callTy call_int1 (by rfl) T.int bt_int (pa_cons (pv 0) pa_nil)) (pv 1)) pa_nil)) (by rfl))))
      (pss_one (ps_ret (pv 0))))), ?_⟩
  rintro m b σ H as d Q ⟨x, y, rfl, rfl⟩ Ev q
  refine seq (s_par Ev (g_cb (ga_cons (g_var rfl) ga_nil) on_abs) (g_cb (ga_cons (g_var rfl) ga_nil) on_abs) fun σ1 H1 E1 => ?_)
  refine seq (s_while E1 (fun k ds' => ∃ u v : Nat, ds' = [.im (.int (u : Int)), .im (.int (v : Int))] ∧ k = v ∧ Nat.gcd u v = Int.gcd x y) y.natAbs ⟨x.natAbs, y.natAbs, rfl, rfl, rfl⟩ ?_)
  rintro v ds' ⟨u, v', rfl, hv', hg⟩
  subst hv'
  refine ⟨_, gt_test (g_op (g_var rfl) g_int o2_neI), fun hc σ' H' N E' hN => ?_, fun hc σ' H' E' => ?_⟩
  · have hv : v ≠ 0 := by
      intro z
      subst z
      simp at hc
    refine s_par E' (g_var rfl) (g_op (g_cb (ga_cons (g_var rfl) ga_nil) on_int) (g_var rfl) (o2_mod (by omega))) fun σ2 H2 E2 => ?_
    refine hN (u % v) _ _ _ (Nat.mod_lt _ (by omega)) ⟨v, u % v, ?_, rfl, ?_⟩ E2
    · rw [fmod_nat] <;> rfl
    · rw [← hg, Nat.gcd_comm u v, Nat.gcd_rec v u, Nat.gcd_comm]
  · have hv : v = 0 := by simpa using hc
    subst hv
    refine s_ret E' (G.is (g_var rfl) ?_) q
    rw [← hg, Nat.gcd_zero_right]

def gcdL (xs : List Int) : Nat := xs.foldl (fun c x => Int.gcd (c : Int) x) 0
theorem gcdL_snoc (xs : List Int) (x : Int) : gcdL (xs ++ [x]) = Int.gcd (gcdL xs : Int) x := by
  unfold gcdL
  rw [List.foldl_append] <;> rfl
theorem gcdL_le (B : Nat) : ∀ xs : List Int, (∀ x ∈ xs, x.natAbs ≤ B) → gcdL xs ≤ B := by
  have h : ∀ (xs : List Int) (c : Nat), c ≤ B → (∀ x ∈ xs, x.natAbs ≤ B) → xs.foldl (fun c x => Int.gcd (c : Int) x) c ≤ B := by
    intro xs
    induction xs with
    | nil => intro c hc _; exact hc
    | cons x xs ih =>
      intro c hc hx
      refine ih _ ?_ (fun y hy => hx y (List.mem_cons_of_mem _ hy))
      by_cases z : x = 0
      · rw [z]
        simpa using hc
      · exact Nat.le_trans (gcd_le z) (hx x List.mem_cons_self)
  exact fun xs hx => h xs 0 (Nat.zero_le _) hx
def prim (xs : List Int) : List Int := if gcdL xs > 1 then xs.map (fun x => x.fdiv (gcdL xs : Int)) else xs
def R_primitive (as : List D) (d : D) : Prop := ∃ xs : List Int, as = [tI xs] ∧ xs.length ≤ 1000 ∧ (∀ x ∈ xs, x.natAbs ≤ 1000) ∧ d = tI (prim xs)
theorem len_primitive {as : List D} {d : D} (h : R_primitive as d) : as.length = 1 := by
  obtain ⟨x, rfl, _⟩ := h
  rfl
abbrev s_primitive : Stmt := topS 10
theorem sc_primitive : FnScope ["one", "common", "x"] ["one"] (defScope s_primitive) := ⟨rfl, rfl, rfl, by decide +kernel, rfl, by decide +kernel, by decide +kernel⟩
-- slots: 0 one, 1 common*, 2 x
theorem ok_primitive {f : Addr} {fd : FuncData} (F : Fun K "primitive" "primitive" s_primitive f fd) (bd : Binds K fd ["one"] []) (mgf : mg "primitive" = some (.ref f)) (T : Top mg) (h_gcd : Has P w K mg base "gcd" ["one", "other"] 1 (spR R_gcd)) :
    Has P w K mg base "primitive" ["one"] 2 (spR R_primitive) := by
  have nd := sc_primitive.nd
  refine ⟨f, fd, fun_ok F sc_primitive (fun as d h => ?_) (fun cdv A outer s H E hr => ?_), mgf, F.kp, bd⟩
  · exact len_primitive h
  refine ⟨_, (pss_cons (ps_set (i := 1) nd rfl (Or.inr rfl) pe_int)
      (pss_cons (ps_for PassesOwn.never rfl (pik_tup K (pv 0)) (pg_name (i := 2) nd rfl (Or.inl rfl)) (pss_one (ps_set (i := 1) nd rfl (Or.inr rfl) (pe_callH h_gcd hr (by decide) (by rfl) (pa_cons (pv 1) (pa_cons (pv 2) pa_nil))))))
      (pss_one (ps_ret (pe_ifExp (pt_cmpR op_gt (pv 1) pe_int (nomark _)) (pe_callTy (ck_tuple K) (by rfl) T.tuple bt_tuple (pa_cons (pe_lc (own := [("x", 2)]) (g := gName 2) (by rfl) nd (pik_tup K (pv 0)) (blkOk_by (own := [("x", 2)]) (by kernel_rfl)) (fun _ _ _ _ _ => (pg_name (i := 2) nd rfl (Or.inl rfl))) (fun _ _ _ _ _ => pts_nil) (fun _ _ _ _ _ => (pe_op op_fdivA (pv 2) (pv 1)))) pa_nil)) (pe_callTy (ck_tuple K) (by rfl) T.tuple bt_tuple (pa_cons (pv 0) pa_nil))))))), ?_⟩
  rintro m b σ H as d Q ⟨xs, rfl, hl, hb, rfl⟩ Ev q
  refine seq (s_asg Ev g_int fun σ1 H1 E1 => ?_)
  refine seq (s_for (i0 := 2) (zs := xs) (e := D.int) (u := fun z ds => ds.set 2 (.im (.int z))) E1 (gi_tup (g_var rfl)) (fun z _ => tg_name) (fun i ds' => ∃ e, ds' = [.im (tI xs), .im (.int (gcdL (xs.take i) : Nat)), e]) ⟨_, rfl⟩ ?_ ?_)
  · rintro b' i z ds' σ' H' N hz ⟨e, rfl⟩ E' hN
    refine s_asg E' (g_call (ga_cons (g_var rfl) (ga_cons (g_var rfl) ga_nil)) ⟨_, _, rfl, rfl⟩) fun σ2 H2 E2 => hN _ σ2 H2 ⟨.im (.int z), ?_⟩ E2
    rw [List.take_add_one, hz]
    show _ = [_, Ent.im (D.int (gcdL (xs.take i ++ [z]) : Nat)), _]
    rw [gcdL_snoc] <;> rfl
  · rintro ds' σ' H' ⟨e, rfl⟩ E'
    rw [List.take_length] at E'
    have hc : gcdL xs ≤ 1000 := gcdL_le 1000 xs hb
    refine s_ret E' (g_if (gt_test (g_op (g_var rfl) g_int o2_gt)) (fun h => ?_) (fun h => ?_)) q
    · have h' : (1 : Int) < (gcdL xs : Int) := by simpa using h
      refine G.is (g_cb (ga_cons (g_lcA (zs := xs) (e := D.int) (u := fun z ds => ds.set 2 (.im (.int z))) (fun z => D.int (z.fdiv (gcdL xs : Int))) (gi_tup (g_var rfl)) (by omega) (fun z _ => tg_name) (fun p acc z _ => g_op (g_var rfl) (g_var rfl) (o2_fdiv (by omega) (by omega)))) ga_nil) onk_tupL) ?_
      show D.tup _ = D.tup _
      unfold prim
      rw [if_pos (by omega), List.map_map] <;> rfl
    · have h' : ¬ (1 : Int) < (gcdL xs : Int) := by simpa using h
      refine G.is (g_cb (ga_cons (g_var rfl) ga_nil) onk_tupT) ?_
      unfold prim
      rw [if_neg (by omega)]

def R_is_vector (as : List D) (d : D) : Prop := ∃ (xs : List Int) (n lo hi : Int), as = [tI xs, .int n, .int lo, .int hi] ∧ xs.length ≤ 1000 ∧ n = (xs.length : Int) ∧ (∀ x ∈ xs, lo ≤ x ∧ x ≤ hi) ∧ d = .bl true
theorem len_is_vector {as : List D} {d : D} (h : R_is_vector as d) : as.length = 4 := by
  obtain ⟨x, n, lo, hi, rfl, _⟩ := h
  rfl
abbrev s_is_vector : Stmt := topS 11
theorem sc_is_vector : FnScope ["value", "size", "low", "high", "x"] ["value", "size", "low", "high"] (defScope s_is_vector) := ⟨rfl, rfl, rfl, by decide +kernel, rfl, by decide +kernel, by decide +kernel⟩
-- slots: 0 value, 1 size, 2 low*, 3 high*, 4 x
theorem ok_is_vector {f : Addr} {fd : FuncData} (F : Fun K "is_vector" "is_vector" s_is_vector f fd) (bd : Binds K fd ["value", "size", "low", "high"] []) (mgf : mg "is_vector" = some (.ref f)) (T : Top mg) (h_is_in : Has P w K mg base "is_in" ["value", "least", "most"] 1 (spR R_is_in)) :
    Has P w K mg base "is_vector" ["value", "size", "low", "high"] 2 (spR R_is_vector) := by
  have nd := sc_is_vector.nd
  refine ⟨f, fd, fun_ok F sc_is_vector (fun as d h => ?_) (fun cdv A outer s H E hr => ?_), mgf, F.kp, bd⟩
  · exact len_is_vector h
  refine ⟨_, (pss_cons (ps_if (PW.pt (pw_or (pt_not (pt_val (pe_callB (ck_isi K) (by rfl) T.isinstance bt_isinstance (pa_cons (pv 0) (pa_cons (pe_bltn (v := .ty "tuple") (by rfl) T.tuple bt_tuple rfl) pa_nil))))) (pw_or1 (pt_cmpR (opk_ne K (hu64 hr)) (pe_callB (ck_len K) (by rfl) T.len bt_len (pa_cons (pv 0) pa_nil)) (pv 1) (nomark _))))) (pss_one (ps_ret pe_bl)) pss_nil)
      (pss_one (ps_ret (pe_cmpR (opk_eq K (hu64 hr)) (pe_lc (own := [("x", 4)]) (g := gName 4) (by rfl) nd (pik_tup K (pv 0)) (blkOk_by (own := [("x", 4)]) (by kernel_rfl)) (fun _ _ _ _ _ => (pg_name (i := 4) nd rfl (Or.inl rfl))) (fun _ _ _ _ _ => (pts_one (pt_not (pt_val (pe_callH h_is_in hr (by decide) (by rfl) (pa_cons (pv 4) (pa_cons (pv 2) (pa_cons (pv 3) pa_nil)))))))) (fun _ _ _ _ _ => (pv 4))) (pe_lst pa_nil) (nomark _))))), ?_⟩
  rintro m b σ H as d Q ⟨xs, n, lo, hi, rfl, hl, rfl, hb, rfl⟩ Ev q
  refine seq (s_if (c := false) Ev (GT.is (gt_or (gt_not (gt_B (g_cb (ga_cons (g_var rfl) (ga_cons g_ty ga_nil)) (on_isi (c := true) (fun _ h => nomatch h) kit_tt)))) fun _ => gt_test (g_op (g_cb (ga_cons (g_var rfl) ga_nil) onk_lenT) (g_var rfl) o2_neI)) ?_) (fun hc => nomatch hc) (fun hc H2 E2 => ?_))
  · simp
  · refine s_ret E2 (G.is (g_op (g_lc (zs := xs) (e := D.int) (u := fun z ds => ds.set 4 (.im (.int z))) (fun _ => false) D.int (gi_tup (g_var rfl)) (by omega) (fun z _ => tg_name)
        (fun p acc z hz => GT.is (gt_not (gt_B (g_call (ga_cons (g_var rfl) (ga_cons (g_var rfl) (ga_cons (g_var rfl) ga_nil))) ⟨_, _, _, rfl, rfl⟩))) ?_) (fun p acc z _ h => nomatch h)) (g_lst ga_nil (by simp)) (o2_eqL (xs := xs.filter fun _ => false) (ys := []))) ?_) q
    · have := hb z hz
      simp [this.1, this.2]
    · simp
end
end Lk
set_option Elab.async false
set_option linter.all false
set_option maxRecDepth 100000
set_option maxHeartbeats 4000000
namespace Lk
open PySem PySem.Spec PyProof.Rows L2 RZ
open Evl (Ex)
section
variable {P : Program} {w : World} {K : PySem.W.Frag} {mg : Str → Option Value} {base : Heap}
/-! determinant, _law_determinant -/
/-- the determinant of a square table of at most three rows -/
def det : List (List Int) → Int
  | [] => 1
  | [[a]] => a
  | [[a, b], [c, d]] => a * d - b * c
  | [[a, b, c], [d, e, f], [g, h, i]] => a * (e * i - f * h) - b * (d * i - f * g) + c * (d * h - e * g)
  | _ => 0
def Sq (rows : List (List Int)) : Prop := rows.length ≤ 3 ∧ ∀ r ∈ rows, r.length = rows.length ∧ ∀ x ∈ r, x.natAbs ≤ 1000
theorem len2 {r : List Int} (h : r.length = 2) : ∃ a b, r = [a, b] := by
  match r, h with
  | [a, b], _ => exact ⟨a, b, rfl⟩
theorem len3 {r : List Int} (h : r.length = 3) : ∃ a b c, r = [a, b, c] := by
  match r, h with
  | [a, b, c], _ => exact ⟨a, b, c, rfl⟩
theorem len1 {r : List Int} (h : r.length = 1) : ∃ a, r = [a] := by
  match r, h with
  | [a], _ => exact ⟨a, rfl⟩
theorem sq_cases {rows : List (List Int)} (h : Sq rows) : rows = [] ∨ (∃ a, rows = [[a]]) ∨ (∃ a b c d, rows = [[a, b], [c, d]]) ∨ (∃ a b c d e f g h i, rows = [[a, b, c], [d, e, f], [g, h, i]]) := by
  obtain ⟨hl, hs⟩ := h
  match rows, hl, hs with
  | [], _, _ => exact .inl rfl
  | [r], _, hs =>
    obtain ⟨a, rfl⟩ := len1 (hs r (by simp)).1
    exact .inr (.inl ⟨a, rfl⟩)
  | [r, s], _, hs =>
    obtain ⟨a, b, rfl⟩ := len2 (hs r (by simp)).1
    obtain ⟨c, d, rfl⟩ := len2 (hs s (by simp)).1
    exact .inr (.inr (.inl ⟨a, b, c, d, rfl⟩))
  | [r, s, t], _, hs =>
    obtain ⟨a, b, c, rfl⟩ := len3 (hs r (by simp)).1
    obtain ⟨d, e, f, rfl⟩ := len3 (hs s (by simp)).1
    obtain ⟨g, h, i, rfl⟩ := len3 (hs t (by simp)).1
    exact .inr (.inr (.inr ⟨a, b, c, d, e, f, g, h, i, rfl⟩))
def sg : Nat → Int
  | 0 => 1
  | n + 1 => 0 - sg n
theorem sg_b : ∀ n : Nat, sg n = 1 ∨ sg n = -1
  | 0 => .inl rfl
  | n + 1 => by
    rcases sg_b n with h | h <;> simp [sg, h]
theorem sg_par : ∀ n : Nat, sg n = if n % 2 = 0 then 1 else -1
  | 0 => rfl
  | n + 1 => by
    rw [sg, sg_par n]
    split <;> split <;> omega
def tot (x m : Nat → Int) : Nat → Int
  | 0 => 0
  | n + 1 => tot x m n + sg n * x n * m n

/-! #### the program's -/
def mkP (rows : List (List Int)) (k : Nat) : List (List Int) := (rows.drop 1).map fun r => r.take k ++ r.drop (k + 1)
def R_det (n : Nat) (as : List D) (d : D) : Prop := ∃ rows : List (List Int), as = [.lst (rows.map tI)] ∧ Sq rows ∧ 1 ≤ rows.length ∧ rows.length ≤ n ∧ d = .int (det rows)
theorem len_det {n : Nat} {as : List D} {d : D} (h : R_det n as d) : as.length = 1 := by
  obtain ⟨x, rfl, _⟩ := h
  rfl
theorem sq_mkP {rows : List (List Int)} {k : Nat} (h : Sq rows) (hl : rows.length = 3) (hk : k < 3) : Sq (mkP rows k) ∧ (mkP rows k).length = 2 := by
  have h2 : (mkP rows k).length = 2 := by
    unfold mkP
    rw [List.length_map, List.length_drop, hl]
  refine ⟨⟨by omega, fun r hr => ?_⟩, h2⟩
  rw [h2]
  obtain ⟨s, hs, rfl⟩ := List.mem_map.mp hr
  have hs' := h.2 s (List.mem_of_mem_drop hs)
  refine ⟨?_, fun x hx => ?_⟩
  · have := hs'.1
    rw [List.length_append, List.length_take, List.length_drop]
    omega
  · rcases List.mem_append.mp hx with z | z
    · exact hs'.2 x (List.mem_of_mem_take z)
    · exact hs'.2 x (List.mem_of_mem_drop z)
theorem detP {a b c d e f g h i : Int} : tot (fun k => [a, b, c].getD k 0) (fun k => det (mkP [[a, b, c], [d, e, f], [g, h, i]] k)) 3 = det [[a, b, c], [d, e, f], [g, h, i]] := by
  simp [tot, sg, mkP, det]
  grind
abbrev s_determinant : Stmt := topS 9
theorem sc_determinant : FnScope ["rows", "total", "k", "part", "row"] ["rows"] (defScope s_determinant) := ⟨rfl, rfl, rfl, by decide +kernel, rfl, by decide +kernel, by decide +kernel⟩
theorem ok_determinant1 {f : Addr} {fd : FuncData} (F : Fun K "determinant" "determinant" s_determinant f fd) (bd : Binds K fd ["rows"] []) (mgf : mg "determinant" = some (.ref f)) (T : Top mg) (n : Nat)
    (h_determinant : Has P w K mg base "determinant" ["rows"] n (spR (R_det n))) : Has P w K mg base "determinant" ["rows"] (n + 1) (spR (R_det (n + 1))) := by
  have nd := sc_determinant.nd
  refine ⟨f, fd, fun_ok F sc_determinant (fun as d h => len_det h) (fun cdv A outer s H E hr => ?_), mgf, F.kp, bd⟩
  refine ⟨_, (pss_cons (ps_if (pt_cmpR (opk_eq K (hu64 hr)) (pe_callB (ck_len K) (by rfl) T.len bt_len (pa_cons (pv 0) pa_nil)) pe_int (nomark _)) (pss_one (ps_ret (pe_ix (ixk K) (pe_ix (ixk K) (pv 0) pe_int (fun _ _ => rfl)) pe_int (fun _ _ => rfl)))) pss_nil)
      (pss_cons (ps_if (pt_cmpR (opk_eq K (hu64 hr)) (pe_callB (ck_len K) (by rfl) T.len bt_len (pa_cons (pv 0) pa_nil)) pe_int (nomark _)) (pss_one (ps_ret (pe_op op_sub (pe_op (opk_times K) (pe_ix (ixk K) (pe_ix (ixk K) (pv 0) pe_int (fun _ _ => rfl)) pe_int (fun _ _ => rfl)) (pe_ix (ixk K) (pe_ix (ixk K) (pv 0) pe_int (fun _ _ => rfl)) pe_int (fun _ _ => rfl))) (pe_op (opk_times K) (pe_ix (ixk K) (pe_ix (ixk K) (pv 0) pe_int (fun _ _ => rfl)) pe_int (fun _ _ => rfl)) (pe_ix (ixk K) (pe_ix (ixk K) (pv 0) pe_int (fun _ _ => rfl)) pe_int (fun _ _ => rfl)))))) pss_nil)
      (pss_cons (ps_set (i := 1) nd rfl (Or.inl rfl) pe_int)
      (pss_cons (ps_for PassesOwn.never rfl (pi_range1 (by rfl) T.range (pa_cons (pe_callB (ck_len K) (by rfl) T.len bt_len (pa_cons (pv 0) pa_nil)) pa_nil)) (pg_name (i := 2) nd rfl (Or.inr rfl)) (pss_one (ps_if (pt_cmpR (opk_ne K (hu64 hr)) (pe_ix (ixk K) (pe_ix (ixk K) (pv 0) pe_int (fun _ _ => rfl)) (pv 2) (fun _ _ => rfl)) pe_int (nomark _)) (pss_cons (ps_set (i := 3) nd rfl (Or.inl rfl) (pe_op (opk_times K) (pe_ix (ixk K) (pe_ix (ixk K) (pv 0) pe_int (fun _ _ => rfl)) (pv 2) (fun _ _ => rfl)) (pe_callH h_determinant hr (Nat.le_refl _) (by rfl) (pa_cons (pe_lc (own := [("row", 4)]) (g := gName 4) (by rfl) nd (pik_list K (pe_slice (slk K) (pv 0) (po_some pe_int) po_none)) (blkOk_by (own := [("row", 4)]) (by kernel_rfl)) (fun _ _ _ _ _ => (pg_name (i := 4) nd rfl (Or.inl rfl))) (fun _ _ _ _ _ => pts_nil) (fun _ _ _ _ _ => (pe_op (opk_plus K) (pe_slice (slk K) (pv 4) po_none (po_some (pv 2))) (pe_slice (slk K) (pv 4) (po_some (pe_op (opk_plus K) (pv 2) pe_int)) po_none)))) pa_nil))))
      (pss_one (ps_aug (i := 1) nd rfl (Or.inl rfl) (pe_ifExp (pt_cmpR (opk_eq K (hu64 hr)) (pe_op op_modN (pv 2) pe_int) pe_int (nomark _)) (pv 3) (pe_un un_neg (pv 3))) ip_add))) pss_nil)))
      (pss_one (ps_ret (pv 1))))))), ?_⟩
  rintro m b σ H as d Q ⟨rows, rfl, hS, h1, hn, rfl⟩ Ev q
  have hlen : ∀ ds, ds[0]? = some (.im (.lst (rows.map tI))) → G m (tCB (rLen K) (tCons (tVar 0) tNil)) ds (.int (rows.length : Int)) := fun ds h0 => G.is (g_cb (ga_cons (g_var h0) ga_nil) onk_lenL) (by rw [List.length_map])
  refine s_when Ev (gt_test (g_op (hlen _ rfl) g_int o2_eqI)) (fun hc H2 E2 => ?_) (fun hc H2 E2 => ?_)
  · have hc' : rows.length = 1 := by
      have : (rows.length : Int) = 1 := by simpa using hc
      omega
    rcases sq_cases hS with rfl | ⟨a, rfl⟩ | ⟨a, b, c, d, rfl⟩ | ⟨a, b, c, d, e, f, g, h, i, rfl⟩
    · simp at h1
    · exact s_ret E2 (g_op (g_op (g_var rfl) g_int (o2_ixL (by decide) rfl)) g_int (o2_ixT (by decide) rfl)) q
    · simp at hc'
    · simp at hc'
  refine s_when E2 (gt_test (g_op (hlen _ rfl) g_int o2_eqI)) (fun hc2 H3 E3 => ?_) (fun hc2 H3 E3 => ?_)
  · have hc' : rows.length = 2 := by
      have : (rows.length : Int) = 2 := by simpa using hc2
      omega
    rcases sq_cases hS with rfl | ⟨a, rfl⟩ | ⟨a, b, c, d, rfl⟩ | ⟨a, b, c, d, e, f, g, h, i, rfl⟩
    · simp at hc'
    · simp at hc'
    · have ha := (hS.2 [a, b] (by simp)).2 a (by simp)
      have hb := (hS.2 [a, b] (by simp)).2 b (by simp)
      have h00 : G m (tOp (rIx K) (tOp (rIx K) (tVar 0) (tC (.int 0))) (tC (.int 0))) (ents [.lst ([[a, b], [c, d]].map tI)] 5) (.int a) := g_op (g_op (g_var rfl) g_int (o2_ixL (by decide) rfl)) g_int (o2_ixT (by decide) rfl)
      have h01 : G m (tOp (rIx K) (tOp (rIx K) (tVar 0) (tC (.int 0))) (tC (.int 1))) (ents [.lst ([[a, b], [c, d]].map tI)] 5) (.int b) := g_op (g_op (g_var rfl) g_int (o2_ixL (by decide) rfl)) g_int (o2_ixT (by decide) rfl)
      have h10 : G m (tOp (rIx K) (tOp (rIx K) (tVar 0) (tC (.int 1))) (tC (.int 0))) (ents [.lst ([[a, b], [c, d]].map tI)] 5) (.int c) := g_op (g_op (g_var rfl) g_int (o2_ixL (by decide) rfl)) g_int (o2_ixT (by decide) rfl)
      have h11 : G m (tOp (rIx K) (tOp (rIx K) (tVar 0) (tC (.int 1))) (tC (.int 1))) (ents [.lst ([[a, b], [c, d]].map tI)] 5) (.int d) := g_op (g_op (g_var rfl) g_int (o2_ixL (by decide) rfl)) g_int (o2_ixT (by decide) rfl)
      exact s_ret E3 (g_op (g_op h00 h11 (o2_mul (.inl ⟨by omega, by omega⟩))) (g_op h01 h10 (o2_mul (.inl ⟨by omega, by omega⟩))) o2_sub) q
    · simp at hc'
  rcases sq_cases hS with rfl | ⟨a, rfl⟩ | ⟨a, b', c, d, rfl⟩ | ⟨a, b', c, d, e', f', g', h', i', rfl⟩
  · simp at h1
  · simp at hc
  · simp at hc2
  refine q_asg E3 g_int fun σ4 H4 E4 => ?_
  have hb : ∀ r ∈ [[a, b', c], [d, e', f'], [g', h', i']], ∀ x ∈ r, x.natAbs ≤ 1000 := fun r hr => (hS.2 r hr).2
  refine q_for (i0 := 2) (zs := rg 0 3) (e := D.int) (u := fun z ds => ds.set 2 (.im (.int z))) E4 ((gi_rng1 (ga_cons (hlen _ rfl) ga_nil) (by simp)).is rfl) (fun z _ => tg_name)
    (fun i ds' => ∃ e2 e3 e4, ds' = [.im (.lst ([[a, b', c], [d, e', f'], [g', h', i']].map tI)), .im (.int (tot (fun k => [a, b', c].getD k 0) (fun k => det (mkP [[a, b', c], [d, e', f'], [g', h', i']] k)) i)), e2, e3, e4]) ⟨_, _, _, rfl⟩ ?_ ?_
  · rintro bb k z ds' σ' H' N hz ⟨e2, e3, e4, rfl⟩ E' hN
    obtain ⟨hk, rfl⟩ := rg_get hz
    have ez : (0 : Int) + (k : Int) = (k : Int) := Int.zero_add _
    rw [ez] at E'
    obtain ⟨x, hx⟩ : ∃ x, [a, b', c][k]? = some x := ⟨[a, b', c][k]'hk, List.getElem?_eq_getElem hk⟩
    have hxd : [a, b', c].getD k 0 = x := by rw [List.getD_eq_getElem?_getD, hx] <;> rfl
    have hxb : x.natAbs ≤ 1000 := hb _ (by simp) x (List.mem_of_getElem? hx)
    have hk0 : (k : Int).toNat = k := by omega
    have gx : ∀ ds'', ds''[0]? = some (.im (.lst ([[a, b', c], [d, e', f'], [g', h', i']].map tI))) → ds''[2]? = some (.im (.int (k : Int))) → G m (tOp (rIx K) (tOp (rIx K) (tVar 0) (tC (.int 0))) (tVar 2)) ds'' (.int x) := fun ds'' h0 h2 =>
      g_op (g_op (g_var h0) g_int (o2_ixL (by decide) rfl)) (g_var h2) (o2_ixT (xs := [a, b', c].map D.int) (by omega) (by rw [hk0, List.getElem?_map, hx] <;> rfl))
    refine s_whenL E' (gt_test (g_op (gx _ rfl rfl) g_int o2_neI)) (fun hc3 H5 E5 => ?_) (fun hc3 H5 E5 => ?_)
    · have hm := sq_mkP hS rfl hk
      refine q_asg E5 (g_op (gx _ rfl rfl) (g_call (ga_cons (g_lcA (zs := [[d, e', f'], [g', h', i']]) (e := tI) (u := fun z ds => ds.set 4 (.im (tI z))) (fun r => tI (r.take k ++ r.drop (k + 1)))
          ((gi_list (g_slice (g_var rfl) (go_some g_int) go_none (os_fromL (by decide)))).is rfl) (by simp) (fun z _ => tg_name)
          (fun p acc z hz => G.is (g_op (g_slice (g_var rfl) go_none (go_some (g_var rfl)) (os_toT (by omega))) (g_slice (g_var rfl) (go_some (g_op (g_var rfl) g_int o2_addI)) go_none (os_fromT (by omega))) (o2_addT ?_)) ?_)) ga_nil) ⟨mkP [[a, b', c], [d, e', f'], [g', h', i']] k, rfl, hm.1, by omega, by rw [hm.2]; simp at hn; omega, rfl⟩) (o2_mul (.inl ⟨by omega, by omega⟩))) fun σ6 H6 E6 => ?_
      · rw [List.length_take, List.length_drop, List.length_map]
        have := (hS.2 z (List.mem_cons_of_mem _ hz)).1
        have e : z.length = 3 := this
        omega
      · show D.tup _ = D.tup _
        have hk1 : ((k : Int) + 1).toNat = k + 1 := by omega
        rw [List.map_append, List.map_take, List.map_drop, hk0, hk1]
      · have hR : tot (fun k => [a, b', c].getD k 0) (fun k => det (mkP [[a, b', c], [d, e', f'], [g', h', i']] k)) (k + 1) = tot (fun k => [a, b', c].getD k 0) (fun k => det (mkP [[a, b', c], [d, e', f'], [g', h', i']] k)) k + (if k % 2 = 0 then x * det (mkP [[a, b', c], [d, e', f'], [g', h', i']] k) else -(x * det (mkP [[a, b', c], [d, e', f'], [g', h', i']] k))) := by
          rw [tot, hxd, sg_par]
          split <;> grind
        refine s_aug E6 rfl (g_if (d := .int (if k % 2 = 0 then x * det (mkP [[a, b', c], [d, e', f'], [g', h', i']] k) else -(x * det (mkP [[a, b', c], [d, e', f'], [g', h', i']] k)))) (gt_test (g_op (g_op (g_var rfl) g_int (o2_mod (by decide))) g_int o2_eqI)) (fun h => ?_) (fun h => ?_)) fun σ7 H7 E7 => hN _ σ7 H7 ?_ E7
        · have h' : Int.fmod (k : Int) 2 = 0 := by simpa using h
          have h2 : k % 2 = 0 := by
            have e := fmod_nat k 2
            have e2 : Int.fmod (k : Int) ((2 : Nat) : Int) = Int.fmod (k : Int) 2 := rfl
            omega
          rw [if_pos h2]
          exact g_var rfl
        · have h' : ¬ Int.fmod (k : Int) 2 = 0 := by simpa using h
          have h2 : ¬ k % 2 = 0 := by
            have e := fmod_nat k 2
            have e2 : Int.fmod (k : Int) ((2 : Nat) : Int) = Int.fmod (k : Int) 2 := rfl
            omega
          rw [if_neg h2]
          exact g_un (g_var rfl) o1_neg
        · rw [hR]
          exact ⟨_, _, _, rfl⟩
    · have hx0 : x = 0 := by simpa using hc3
      refine hN _ σ' H5 ?_ E5
      rw [tot, hxd, hx0, Int.mul_zero, Int.zero_mul, Int.add_zero]
      exact ⟨_, _, _, rfl⟩
  · rintro ds' σ' H' ⟨e2, e3, e4, rfl⟩ E'
    refine s_ret E' (G.is (g_var rfl) ?_) q
    show D.int _ = D.int _
    rw [rg_len, detP]

theorem ok_determinant {f : Addr} {fd : FuncData} (F : Fun K "determinant" "determinant" s_determinant f fd) (bd : Binds K fd ["rows"] []) (mgf : mg "determinant" = some (.ref f)) (T : Top mg) : ∀ n : Nat, Has P w K mg base "determinant" ["rows"] n (spR (R_det n))
  | 0 => ⟨f, fd, fn_none (fun as d h => by obtain ⟨rows, _, _, h1, h2, _⟩ := h; omega), mgf, F.kp, bd⟩
  | n + 1 => ok_determinant1 F bd mgf T n (ok_determinant F bd mgf T n)
end
end Lk
set_option Elab.async false
set_option linter.all false
set_option maxRecDepth 100000
set_option maxHeartbeats 4000000
namespace Lk
open PySem PySem.Spec PyProof.Rows L2 RZ
open Evl (Ex)
section
variable {P : Program} {w : World} {K : PySem.W.Frag} {mg : Str → Option Value} {base : Heap}
/-! _law_determinant -/
def mkL (rows : List (List Int)) (k : Nat) : List (List Int) := ((rg 0 rows.length).filter fun j => !(j == (k : Int))).map fun j => (rows.getD j.toNat []).drop 1
def R_ldet (n : Nat) (as : List D) (d : D) : Prop := ∃ rows : List (List Int), as = [.lst (rows.map lI)] ∧ Sq rows ∧ rows.length < n ∧ d = .int (det rows)
theorem len_ldet {n : Nat} {as : List D} {d : D} (h : R_ldet n as d) : as.length = 1 := by
  obtain ⟨x, rfl, _⟩ := h
  rfl
theorem fl_len {m k : Nat} (h : m ≤ 3) (hk : k < m) : ((rg 0 m).filter fun j => !(j == (k : Int))).length = m - 1 := by
  have h2 : ∀ m ∈ [0, 1, 2, 3], ∀ k ∈ [0, 1, 2], k < m → ((rg 0 m).filter fun j => !(j == ((k : Nat) : Int))).length = m - 1 := by decide
  exact h2 m (by simp; omega) k (by simp; omega) hk
theorem sq_mkL {rows : List (List Int)} {k : Nat} (h : Sq rows) (hk : k < rows.length) : Sq (mkL rows k) ∧ (mkL rows k).length = rows.length - 1 := by
  have h2 : (mkL rows k).length = rows.length - 1 := by
    unfold mkL
    rw [List.length_map, fl_len h.1 hk]
  refine ⟨⟨by have := h.1; omega, fun r hr => ?_⟩, h2⟩
  rw [h2]
  obtain ⟨j, hj, rfl⟩ := List.mem_map.mp hr
  have hj' := (List.mem_filter.mp hj).1
  obtain ⟨i, hi⟩ := List.getElem?_of_mem hj'
  obtain ⟨hi1, rfl⟩ := rg_get hi
  have e : ((0 : Int) + (i : Int)).toNat = i := by omega
  have hm : rows.getD ((0 : Int) + (i : Int)).toNat [] ∈ rows := by
    rw [e, List.getD_eq_getElem?_getD, List.getElem?_eq_getElem hi1]
    exact List.getElem_mem hi1
  have hs := h.2 _ hm
  refine ⟨by rw [List.length_drop, hs.1], fun x hx => hs.2 x (List.mem_of_mem_drop hx)⟩
theorem detL {rows : List (List Int)} (h : Sq rows) (h1 : 1 ≤ rows.length) : tot (fun k => (rows.getD k []).getD 0 0) (fun k => det (mkL rows k)) rows.length = det rows := by
  have r1 : rg 0 1 = [0] := by decide
  have r2 : rg 0 2 = [0, 1] := by decide
  have r3 : rg 0 3 = [0, 1, 2] := by decide
  rcases sq_cases h with rfl | ⟨a, rfl⟩ | ⟨a, b, c, d, rfl⟩ | ⟨a, b, c, d, e, f, g, h, i, rfl⟩
  · simp at h1
  · simp [tot, sg, mkL, det, r1, r2, r3]
  · simp [tot, sg, mkL, det, r1, r2, r3]
    grind
  · simp [tot, sg, mkL, det, r1, r2, r3]
    grind
abbrev s_law_determinant : Stmt := topS 28
theorem sc_law_determinant : FnScope ["_law_rows", "_law_total", "_law_sign", "_law_k", "_law_rest", "_law_j"] ["_law_rows"] (defScope s_law_determinant) := ⟨rfl, rfl, rfl, by decide +kernel, rfl, by decide +kernel, by decide +kernel⟩
theorem ok_law_determinant1 {f : Addr} {fd : FuncData} (F : Fun K "_law_determinant" "_law_determinant" s_law_determinant f fd) (bd : Binds K fd ["_law_rows"] []) (mgf : mg "_law_determinant" = some (.ref f)) (T : Top mg) (n : Nat)
    (h_law_determinant : Has P w K mg base "_law_determinant" ["_law_rows"] n (spR (R_ldet n))) : Has P w K mg base "_law_determinant" ["_law_rows"] (n + 1) (spR (R_ldet (n + 1))) := by
  have nd := sc_law_determinant.nd
  refine ⟨f, fd, fun_ok F sc_law_determinant (fun as d h => len_ldet h) (fun cdv A outer s H E hr => ?_), mgf, F.kp, bd⟩
  refine ⟨_, (pss_cons (ps_if (pt_cmpR (opk_eq K (hu64 hr)) (pe_callB (ck_len K) (by rfl) T.len bt_len (pa_cons (pv 0) pa_nil)) pe_int (nomark _)) (pss_one (ps_ret pe_int)) pss_nil)
      (pss_cons (ps_asg (pe_tup (pa_cons pe_int (pa_cons pe_int pa_nil))) (pgk_tup K (by rfl) (pgs_cons (pg_name (i := 1) nd rfl (Or.inl rfl)) (pgs_cons (pg_name (i := 2) nd rfl (Or.inl rfl)) pgs_nil))))
      (pss_cons (ps_for PassesOwn.never rfl (pi_range1 (by rfl) T.range (pa_cons (pe_callB (ck_len K) (by rfl) T.len bt_len (pa_cons (pv 0) pa_nil)) pa_nil)) (pg_name (i := 3) nd rfl (Or.inr rfl)) (pss_cons (ps_if (pt_cmpR (opk_ne K (hu64 hr)) (pe_ix (ixk K) (pe_ix (ixk K) (pv 0) (pv 3) (fun _ _ => rfl)) pe_int (fun _ _ => rfl)) pe_int (nomark _)) (pss_cons (ps_setLc (i := 4) (own := [("_law_j", 5)]) (g := gName 5) (by rfl) nd rfl rfl (sw_true rfl rfl rfl (by decide +kernel)) (pi_range1 (by rfl) T.range (pa_cons (pe_callB (ck_len K) (by rfl) T.len bt_len (pa_cons (pv 0) pa_nil)) pa_nil)) (blkOk_by (own := [("_law_j", 5)]) (by kernel_rfl)) (fun _ _ _ _ _ => (pg_name (i := 5) nd rfl (Or.inl rfl))) (fun _ _ _ _ _ => (pts_one (pt_cmpR (opk_ne K (hu64 hr)) (pv 5) (pv 3) (nomark _)))) (fun _ _ _ _ _ => (pe_slice (slk K) (pe_ix (ixk K) (pv 0) (pv 5) (fun _ _ => rfl)) (po_some pe_int) po_none)))
      (pss_one (ps_set (i := 1) nd rfl (Or.inl rfl) (pe_op (opk_plus K) (pv 1) (pe_op (opk_times K) (pe_op (opk_times K) (pv 2) (pe_ix (ixk K) (pe_ix (ixk K) (pv 0) (pv 3) (fun _ _ => rfl)) pe_int (fun _ _ => rfl))) (pe_callH h_law_determinant hr (Nat.le_refl _) (by rfl) (pa_cons (pv 4) pa_nil))))))) pss_nil)
      (pss_one (ps_set (i := 2) nd rfl (Or.inl rfl) (pe_op op_sub pe_int (pv 2))))))
      (pss_one (ps_ret (pv 1)))))), ?_⟩
  rintro m b σ H as d Q ⟨rows, rfl, hS, hn, rfl⟩ Ev q
  have hlen : ∀ ds, ds[0]? = some (.im (.lst (rows.map lI))) → G m (tCB (rLen K) (tCons (tVar 0) tNil)) ds (.int (rows.length : Int)) := fun ds h0 => G.is (g_cb (ga_cons (g_var h0) ga_nil) onk_lenL) (by rw [List.length_map])
  refine s_when Ev (gt_test (g_op (hlen _ rfl) g_int o2_eqI)) (fun hc H2 E2 => ?_) (fun hc H2 E2 => ?_)
  · have hc' : rows.length = 0 := by
      have : (rows.length : Int) = 0 := by simpa using hc
      omega
    have e0 : rows = [] := List.eq_nil_of_length_eq_zero hc'
    subst e0
    exact s_ret E2 g_int q
  have h1 : 1 ≤ rows.length := by
    have : ¬ (rows.length : Int) = 0 := by simpa using hc
    omega
  refine q_unp2 E2 (g_tup (ga_cons g_int (ga_cons g_int ga_nil)) (by simp)) fun σ3 H3 E3 => ?_
  have hl3 := hS.1
  refine q_for (i0 := 3) (zs := rg 0 rows.length) (e := D.int) (u := fun z ds => ds.set 3 (.im (.int z))) E3 ((gi_rng1 (ga_cons (hlen _ rfl) ga_nil) (by omega)).is (by rw [Int.toNat_natCast])) (fun z _ => tg_name)
    (fun i ds' => ∃ e3 e4 e5, ds' = [.im (.lst (rows.map lI)), .im (.int (tot (fun k => (rows.getD k []).getD 0 0) (fun k => det (mkL rows k)) i)), .im (.int (sg i)), e3, e4, e5]) ⟨_, _, _, rfl⟩ ?_ ?_
  · rintro bb k z ds' σ' H' N hz ⟨e3, e4, e5, rfl⟩ E' hN
    obtain ⟨hk, rfl⟩ := rg_get hz
    have ez : (0 : Int) + (k : Int) = (k : Int) := Int.zero_add _
    rw [ez] at E'
    have hk0 : (k : Int).toNat = k := by omega
    have hr : rows[k]? = some rows[k] := List.getElem?_eq_getElem hk
    have hrm : rows[k] ∈ rows := List.getElem_mem hk
    obtain ⟨hrl, hrb⟩ := hS.2 _ hrm
    obtain ⟨x, hx⟩ : ∃ x, rows[k][0]? = some x := ⟨rows[k][0]'(by omega), List.getElem?_eq_getElem (by omega)⟩
    have hxd : (rows.getD k []).getD 0 0 = x := by rw [List.getD_eq_getElem?_getD, List.getD_eq_getElem?_getD, hr, Option.getD_some, hx] <;> rfl
    have hxb : x.natAbs ≤ 1000 := hrb x (List.mem_of_getElem? hx)
    have gx : ∀ ds'', ds''[0]? = some (.im (.lst (rows.map lI))) → ds''[3]? = some (.im (.int (k : Int))) → G m (tOp (rIx K) (tOp (rIx K) (tVar 0) (tVar 3)) (tC (.int 0))) ds'' (.int x) := fun ds'' h0 h3 =>
      g_op (g_op (g_var h0) (g_var h3) (o2_ixL (d := lI rows[k]) (by omega) (by rw [hk0, List.getElem?_map, hr] <;> rfl))) g_int (o2_ixL (by decide) (by show (rows[k].map D.int)[0]? = _; rw [List.getElem?_map, hx] <;> rfl))
    have hsg := sg_b k
    have fin : ∀ σ7 H7 ds7, Env m bb σ7 H7 ds7 → (∃ e3 e4 e5, ds7 = [.im (.lst (rows.map lI)), .im (.int (tot (fun k => (rows.getD k []).getD 0 0) (fun k => det (mkL rows k)) (k + 1))), .im (.int (sg k)), e3, e4, e5]) → tAsg (tOp (rI0 fun i j => .int (i - j)) (tC (.int 0)) (tVar 2)) (gName 2) { nx := N, rt := Q, ct := N, bk := tRet (tVar 1) { nx := fun _ H' => Q .non H', rt := Q } } σ7 H7 := fun σ7 H7 ds7 E7 h7 => by
      obtain ⟨e3, e4, e5, rfl⟩ := h7
      refine s_asg E7 (g_op g_int (g_var rfl) o2_sub) fun σ8 H8 E8 => hN _ σ8 H8 ⟨e3, e4, e5, rfl⟩ E8
    refine s_when E' (gt_test (g_op (gx _ rfl rfl) g_int o2_neI)) (fun hc3 H5 E5 => ?_) (fun hc3 H5 E5 => ?_)
    · have hm := sq_mkL hS hk
      refine q_asg E5 (g_lc (zs := rg 0 rows.length) (e := D.int) (u := fun z ds => ds.set 5 (.im (.int z))) (fun j => !(j == (k : Int))) (fun j => lI ((rows.getD j.toNat []).drop 1)) ((gi_rng1 (ga_cons (hlen _ rfl) ga_nil) (by omega)).is (by rw [Int.toNat_natCast])) (by rw [rg_len]; omega) (fun z _ => tg_name)
        (fun p acc z hz => gt_test (g_op (g_var rfl) (g_var rfl) o2_neI)) (fun p acc z hz hcz => ?_)) fun σ6 H6 E6 => ?_
      · obtain ⟨i, hi⟩ := List.getElem?_of_mem hz
        obtain ⟨hi1, rfl⟩ := rg_get hi
        have e : ((0 : Int) + (i : Int)).toNat = i := by omega
        refine G.is (g_slice (g_op (g_var rfl) (g_var rfl) (o2_ixL (d := lI rows[i]) (by omega) (by rw [e, List.getElem?_map, List.getElem?_eq_getElem hi1] <;> rfl))) (go_some g_int) go_none (os_fromL (by decide))) ?_
        show D.lst _ = D.lst _
        rw [e, List.getD_eq_getElem?_getD, List.getElem?_eq_getElem hi1, Option.getD_some, List.map_drop] <;> rfl
      · have hmk : ((rg 0 rows.length).filter fun j => !(j == (k : Int))).map (fun j => lI ((rows.getD j.toNat []).drop 1)) = (mkL rows k).map lI := by
          unfold mkL
          rw [List.map_map] <;> rfl
        rw [hmk] at E6
        refine s_asg E6 (g_op (g_var rfl) (g_op (g_op (g_var rfl) (gx _ rfl rfl) (o2_mul (.inl ⟨by omega, by omega⟩))) (g_call (ga_cons (g_var rfl) ga_nil) ⟨mkL rows k, rfl, hm.1, by omega, rfl⟩) (o2_mul (.inl ⟨?_, ?_⟩))) o2_addI) fun σ7 H7 E7 => fin σ7 H7 _ E7 ?_
        · rcases hsg with h | h <;> rw [h] <;> omega
        · rcases hsg with h | h <;> rw [h] <;> omega
        · rw [tot, hxd]
          exact ⟨_, _, _, rfl⟩
    · have hx0 : x = 0 := by simpa using hc3
      refine fin σ' H5 _ E5 ?_
      rw [tot, hxd, hx0, Int.mul_zero, Int.zero_mul, Int.add_zero]
      exact ⟨_, _, _, rfl⟩
  · rintro ds' σ' H' ⟨e2, e3, e4, rfl⟩ E'
    refine s_ret E' (G.is (g_var rfl) ?_) q
    show D.int _ = D.int _
    rw [rg_len, detL hS h1]
theorem ok_law_determinant {f : Addr} {fd : FuncData} (F : Fun K "_law_determinant" "_law_determinant" s_law_determinant f fd) (bd : Binds K fd ["_law_rows"] []) (mgf : mg "_law_determinant" = some (.ref f)) (T : Top mg) : ∀ n : Nat, Has P w K mg base "_law_determinant" ["_law_rows"] n (spR (R_ldet n))
  | 0 => ⟨f, fd, fn_none (fun as d h => by obtain ⟨rows, _, _, h1, _⟩ := h; omega), mgf, F.kp, bd⟩
  | n + 1 => ok_law_determinant1 F bd mgf T n (ok_law_determinant F bd mgf T n)
end
end Lk
set_option Elab.async false
set_option linter.all false
set_option maxRecDepth 100000
set_option maxHeartbeats 4000000
namespace Lk
open PySem PySem.Spec PyProof.Rows L2 RZ
open Evl (Ex)
section
variable {P : Program} {w : World} {K : PySem.W.Frag} {mg : Str → Option Value} {base : Heap}
/-! box_points, cramer, weights_of -/
def boxStep (acc : List (List Int)) (lh : Int × Int) : List (List Int) := acc.flatMap fun p => (rg lh.1 (lh.2 + 1 - lh.1).toNat).map fun x => p ++ [x]
def boxPts (ls : List (Int × Int)) : List (List Int) := ls.foldl boxStep [[]]
theorem boxPts_snoc (ls : List (Int × Int)) (lh : Int × Int) : boxPts (ls ++ [lh]) = boxStep (boxPts ls) lh := by
  unfold boxPts
  rw [List.foldl_append] <;> rfl
theorem flat_len {α β : Type} (f : α → List β) (N : Nat) : ∀ xs : List α, (∀ x ∈ xs, (f x).length ≤ N) → (xs.flatMap f).length ≤ xs.length * N
  | [], _ => by simp
  | x :: xs, h => by
    have h1 := flat_len f N xs fun y hy => h y (List.mem_cons_of_mem _ hy)
    have h2 := h x List.mem_cons_self
    rw [List.flatMap_cons, List.length_append, List.length_cons, Nat.succ_mul]
    omega
theorem boxStep_len {acc : List (List Int)} {lh : Int × Int} (h : lh.2 - lh.1 ≤ 9) : (boxStep acc lh).length ≤ acc.length * 10 := by
  refine flat_len _ 10 acc fun p _ => ?_
  rw [List.length_map, rg_len]
  omega
theorem boxPts_take {ls : List (Int × Int)} (h : ∀ lh ∈ ls, lh.2 - lh.1 ≤ 9) : ∀ i : Nat, i ≤ 2 → (boxPts (ls.take i)).length ≤ 100 := by
  have h1 : ∀ i : Nat, (boxPts (ls.take i)).length ≤ 10 ^ i := fun i => by
    induction i with
    | zero => simp [boxPts]
    | succ i ih =>
      rw [List.take_add_one]
      cases hx : ls[i]? with
      | none =>
        simp only [Option.toList_none, List.append_nil]
        exact Nat.le_trans ih (Nat.pow_le_pow_right (by decide) (by omega))
      | some lh =>
        simp only [Option.toList_some]
        rw [boxPts_snoc]
        have := boxStep_len (acc := boxPts (ls.take i)) (h lh (List.mem_of_getElem? hx))
        rw [Nat.pow_succ]
        omega
  intro i hi
  have h2 := h1 i
  have h3 : i = 0 ∨ i = 1 ∨ i = 2 := by omega
  rcases h3 with rfl | rfl | rfl <;> omega
theorem boxPts_mem {ls : List (Int × Int)} {p : List Int} (h : p ∈ boxPts ls) : p.length = ls.length := by
  have g : ∀ (ls : List (Int × Int)) (acc : List (List Int)) (n : Nat), (∀ p ∈ acc, p.length = n) → ∀ p ∈ ls.foldl boxStep acc, p.length = n + ls.length := by
    intro ls
    induction ls with
    | nil => intro acc n ha p hp; exact ha p hp
    | cons lh ls ih =>
      intro acc n ha p hp
      have := ih (boxStep acc lh) (n + 1) (fun p hp => by
        obtain ⟨a, h1, h2⟩ := List.mem_flatMap.mp hp
        obtain ⟨x, _, rfl⟩ := List.mem_map.mp h2
        rw [List.length_append, ha a h1] <;> rfl) p hp
      rw [List.length_cons]
      omega
  have := g ls [[]] 0 (by simp) p h
  omega
def R_box_points (as : List D) (d : D) : Prop := ∃ lo hi : List Int, as = [lI lo, lI hi] ∧ lo.length = hi.length ∧ lo.length ≤ 3 ∧ (∀ x ∈ lo, -1000 ≤ x ∧ x ≤ 1000) ∧ (∀ x ∈ hi, -1000 ≤ x ∧ x ≤ 1000) ∧ (∀ lh ∈ lo.zip hi, lh.2 - lh.1 ≤ 9) ∧ d = .lst ((boxPts (lo.zip hi)).map tI)
theorem len_box_points {as : List D} {d : D} (h : R_box_points as d) : as.length = 2 := by
  obtain ⟨x, y, rfl, _⟩ := h
  rfl
abbrev s_box_points : Stmt := topS 14
theorem sc_box_points : FnScope ["low", "high", "found", "k", "p", "x"] ["low", "high"] (defScope s_box_points) := ⟨rfl, rfl, rfl, by decide +kernel, rfl, by decide +kernel, by decide +kernel⟩
-- slots: 0 low*, 1 high*, 2 found, 3 k*, 4 p, 5 x
theorem ok_box_points {f : Addr} {fd : FuncData} (F : Fun K "box_points" "box_points" s_box_points f fd) (bd : Binds K fd ["low", "high"] []) (mgf : mg "box_points" = some (.ref f)) (T : Top mg)  :
    Has P w K mg base "box_points" ["low", "high"] 1 (spR R_box_points) := by
  have nd := sc_box_points.nd
  refine ⟨f, fd, fun_ok F sc_box_points (fun as d h => ?_) (fun cdv A outer s H E hr => ?_), mgf, F.kp, bd⟩
  · exact len_box_points h
  refine ⟨_, (pss_cons (ps_set (i := 2) nd rfl (Or.inl rfl) (pe_lst (pa_cons (pe_tup pa_nil) pa_nil)))
      (pss_cons (ps_for PassesOwn.never rfl (pi_range1 (by rfl) T.range (pa_cons (pe_callB (ck_len K) (by rfl) T.len bt_len (pa_cons (pv 0) pa_nil)) pa_nil)) (pg_name (i := 3) nd rfl (Or.inr rfl)) (pss_one (ps_setLc2 (i := 2) (own := [("p", 4), ("x", 5)]) (vs1 := [5]) (by rfl) nd rfl rfl (sw_true rfl rfl rfl (by decide +kernel)) (pik_list K (pv 2)) (blkOk_by (own := [("p", 4), ("x", 5)]) (by kernel_rfl)) (by decide) (fun _ _ _ _ _ => (pg_name (i := 4) nd rfl (Or.inl rfl))) (fun _ _ _ _ _ => pts_nil) (fun _ _ _ _ _ => (pi_range2 (by rfl) T.range (pa_cons (pe_ix (ixk K) (pv 0) (pv 3) (fun _ _ => rfl)) (pa_cons (pe_op (opk_plus K) (pe_ix (ixk K) (pv 1) (pv 3) (fun _ _ => rfl)) pe_int) pa_nil)))) (fun _ _ _ _ _ => (pg_name (i := 5) nd rfl (Or.inl rfl))) (fun _ _ _ _ _ => pts_nil) (fun _ _ _ _ _ => (pe_op (opk_plus K) (pv 4) (pe_tup (pa_cons (pv 5) pa_nil)))))))
      (pss_one (ps_ret (pv 2))))), ?_⟩
  rintro m b σ H as d Q ⟨lo, hi, rfl, hl, h3, hlo, hhi, hw, rfl⟩ Ev q
  refine q_asg Ev (g_lst (as := [.tup []]) (ga_cons (g_tup ga_nil (by simp)) ga_nil) (by simp)) fun σ1 H1 E1 => ?_
  refine q_for (i0 := 3) (zs := rg 0 lo.length) (e := D.int) (u := fun z ds => ds.set 3 (.im (.int z))) E1 ((gi_rng1 (ga_cons (g_cb (ga_cons (g_var rfl) ga_nil) onk_lenL) ga_nil) (by rw [List.length_map]; omega)).is (by rw [Int.toNat_natCast, List.length_map])) (fun z _ => tg_name)
    (fun i ds' => ∃ e3 e4 e5, ds' = [.im (lI lo), .im (lI hi), .im (.lst ((boxPts ((lo.zip hi).take i)).map tI)), e3, e4, e5]) ⟨_, _, _, rfl⟩ ?_ ?_
  · rintro bb k z ds' σ' H' N hz ⟨e3, e4, e5, rfl⟩ E' hN
    obtain ⟨hk, rfl⟩ := rg_get hz
    have ez : (0 : Int) + (k : Int) = (k : Int) := Int.zero_add _
    rw [ez] at E'
    have hk0 : (k : Int).toNat = k := by omega
    have hkh : k < hi.length := by omega
    have g1 : lo[k]? = some lo[k] := List.getElem?_eq_getElem hk
    have g2 : hi[k]? = some hi[k] := List.getElem?_eq_getElem hkh
    have b1 := hlo _ (List.getElem_mem hk)
    have b2 := hhi _ (List.getElem_mem hkh)
    have gz : (lo.zip hi)[k]? = some (lo[k], hi[k]) := by
      rw [List.getElem?_zip_eq_some]
      exact ⟨g1, g2⟩
    have bw := hw _ (List.mem_of_getElem? gz)
    refine s_asg E' (g_lc2 (zs := boxPts ((lo.zip hi).take k)) (e := tI) (u := fun z ds => ds.set 4 (.im (tI z))) (fun _ => rg lo[k] (hi[k] + 1 - lo[k]).toNat) D.int (fun _ x ds => ds.set 5 (.im (.int x))) (fun p x => tI (p ++ [x])) 100
      (gi_list (g_var rfl)) (boxPts_take hw k (by omega)) (fun z _ => by rw [rg_len]; show (hi[k] + 1 - lo[k]).toNat ≤ 100; have : hi[k] - lo[k] ≤ 9 := bw; omega) (by decide) (fun z _ => tg_name)
      (fun p acc z _ => gi_rng2 (ga_cons (g_op (g_var rfl) (g_var rfl) (o2_ixL (d := .int lo[k]) (by omega) (by rw [hk0, List.getElem?_map, g1] <;> rfl))) (ga_cons (g_op (g_op (g_var rfl) (g_var rfl) (o2_ixL (d := .int hi[k]) (by omega) (by rw [hk0, List.getElem?_map, g2] <;> rfl))) g_int o2_addI) ga_nil)) ⟨by omega, by omega, by omega, by omega⟩)
      (fun z _ w _ => tg_name) (fun p acc z w hz hw => G.is (g_op (g_var rfl) (g_tup (ga_cons (g_var rfl) ga_nil) (by simp)) (o2_addT ?_)) ?_)) fun σ2 H2 E2 => hN _ σ2 H2 ?_ E2
    · have := boxPts_mem hz
      rw [List.length_take] at this
      rw [List.length_map, List.length_singleton]
      omega
    · show D.tup _ = D.tup _
      rw [List.map_append] <;> rfl
    · have e1 : (boxPts ((lo.zip hi).take (k + 1))).map tI = (boxPts ((lo.zip hi).take k)).flatMap fun z => (rg lo[k] (hi[k] + 1 - lo[k]).toNat).map fun x => tI (z ++ [x]) := by
        rw [List.take_add_one, gz]
        show (boxPts ((lo.zip hi).take k ++ [(lo[k], hi[k])])).map tI = _
        rw [boxPts_snoc]
        unfold boxStep
        rw [List.map_flatMap]
        simp only [List.map_map]
        rfl
      rw [e1]
      exact ⟨_, _, _, rfl⟩
  · rintro ds' σ' H' ⟨e3, e4, e5, rfl⟩ E'
    refine s_ret E' (G.is (g_var rfl) ?_) q
    rw [rg_len, List.take_of_length_le (by rw [List.length_zip]; omega)]

def chg (rows : List (List Int)) (right : List Int) (k : Nat) : List (List Int) := List.zipWith (fun r v => r.take k ++ [v] ++ r.drop (k + 1)) rows right
def wt (rows : List (List Int)) (right : List Int) (k : Nat) : Int × Int := red (det (chg rows right k)) (det rows)
def wD (p : Int × Int) : D := .tup [.int p.1, .int p.2]
def R_cramer (as : List D) (d : D) : Prop := ∃ (rows : List (List Int)) (right : List Int), as = [.lst (rows.map tI), lI right] ∧ Sq rows ∧ 1 ≤ rows.length ∧ right.length = rows.length ∧ (∀ x ∈ right, x.natAbs ≤ 1000) ∧ det rows ≠ 0 ∧ (det rows).natAbs < 1000000 ∧
  d = .tup ((List.range rows.length).map fun k => wD (wt rows right k))
theorem len_cramer {as : List D} {d : D} (h : R_cramer as d) : as.length = 2 := by
  obtain ⟨x, y, rfl, _⟩ := h
  rfl
theorem sq_chg {rows : List (List Int)} {right : List Int} {k : Nat} (h : Sq rows) (hl : right.length = rows.length) (hb : ∀ x ∈ right, x.natAbs ≤ 1000) (hk : k < rows.length) : Sq (chg rows right k) ∧ (chg rows right k).length = rows.length := by
  have h2 : (chg rows right k).length = rows.length := by
    unfold chg
    rw [List.length_zipWith]
    omega
  refine ⟨⟨by have := h.1; omega, fun r hr => ?_⟩, h2⟩
  rw [h2]
  unfold chg at hr
  rw [← List.map_uncurry_zip_eq_zipWith] at hr
  obtain ⟨⟨s, v⟩, hs, rfl⟩ := List.mem_map.mp hr
  have hs' := h.2 s (List.of_mem_zip hs).1
  have hv := hb v (List.of_mem_zip hs).2
  refine ⟨?_, fun x hx => ?_⟩
  · have := hs'.1
    show (s.take k ++ [v] ++ s.drop (k + 1)).length = _
    rw [List.length_append, List.length_append, List.length_take, List.length_drop, List.length_singleton]
    omega
  · have hx : x ∈ s.take k ++ [v] ++ s.drop (k + 1) := hx
    rcases List.mem_append.mp hx with z | z
    · rcases List.mem_append.mp z with z | z
      · exact hs'.2 x (List.mem_of_mem_take z)
      · rw [List.mem_singleton.mp z]
        exact hv
    · exact hs'.2 x (List.mem_of_mem_drop z)
def R_determinant := R_det 3
def rvD (p : List Int × Int) : D := .tup [tI p.1, .int p.2]
theorem zip_rv (xs : List (List Int)) (ys : List Int) : List.zipWith (fun x y => D.tup [x, y]) (xs.map tI) (ys.map D.int) = (xs.zip ys).map rvD := by
  rw [List.zipWith_map, List.zip, List.map_zipWith] <;> rfl
abbrev s_cramer : Stmt := topS 12
theorem sc_cramer : FnScope ["rows", "right", "whole", "found", "k", "changed", "row", "value"] ["rows", "right"] (defScope s_cramer) := ⟨rfl, rfl, rfl, by decide +kernel, rfl, by decide +kernel, by decide +kernel⟩
-- slots: 0 rows, 1 right, 2 whole, 3 found, 4 k*, 5 changed, 6 row, 7 value
theorem ok_cramer {f : Addr} {fd : FuncData} (F : Fun K "cramer" "cramer" s_cramer f fd) (bd : Binds K fd ["rows", "right"] []) (mgf : mg "cramer" = some (.ref f)) (T : Top mg) (h_determinant : Has P w K mg base "determinant" ["rows"] 3 (spR R_determinant)) (h_reduced : Has P w K mg base "reduced" ["numerator", "denominator"] 2 (spR R_reduced)) :
    Has P w K mg base "cramer" ["rows", "right"] 4 (spR R_cramer) := by
  have nd := sc_cramer.nd
  refine ⟨f, fd, fun_ok F sc_cramer (fun as d h => ?_) (fun cdv A outer s H E hr => ?_), mgf, F.kp, bd⟩
  · exact len_cramer h
  refine ⟨_, (pss_cons (ps_par (i := 2) (j := 3) (by rfl) nd rfl rfl (by decide) rfl rfl (pa_cons (pe_callH h_determinant hr (by decide) (by rfl) (pa_cons (pv 0) pa_nil)) (pa_cons (pe_lst pa_nil) pa_nil)) (by rfl))
      (pss_cons (ps_for PassesOwn.never rfl (pi_range1 (by rfl) T.range (pa_cons (pe_callB (ck_len K) (by rfl) T.len bt_len (pa_cons (pv 0) pa_nil)) pa_nil)) (pg_name (i := 4) nd rfl (Or.inr rfl)) (pss_cons (ps_setLc (i := 5) (own := [("row", 6), ("value", 7)]) (g := gTup K 2 (gCons (gName 6) (gCons (gName 7) gNil))) (by rfl) nd rfl rfl (sw_true rfl rfl rfl (by decide +kernel)) (pik_zip K (by rfl) T.zip (pa_cons (pv 0) (pa_cons (pv 1) pa_nil))) (blkOk_by (own := [("row", 6), ("value", 7)]) (by kernel_rfl)) (fun _ _ _ _ _ => (pgk_tup K (by rfl) (pgs_cons (pg_name (i := 6) nd rfl (Or.inl rfl)) (pgs_cons (pg_name (i := 7) nd rfl (Or.inl rfl)) pgs_nil)))) (fun _ _ _ _ _ => pts_nil) (fun _ _ _ _ _ => (pe_op (opk_plus K) (pe_op (opk_plus K) (pe_slice (slk K) (pv 6) po_none (po_some (pv 4))) (pe_tup (pa_cons (pv 7) pa_nil))) (pe_slice (slk K) (pv 6) (po_some (pe_op (opk_plus K) (pv 4) pe_int)) po_none))))
      (pss_one (ps_expr (pe_bm PySem.F.plainAttrs_list PySem.F.slot_list_append PySem.F.type_list_append mt_append (pv 3) (pa_cons (pe_callH h_reduced hr (by decide) (by rfl) (pa_cons (pe_callH h_determinant hr (by decide) (by rfl) (pa_cons (pv 5) pa_nil)) (pa_cons (pv 2) pa_nil))) pa_nil))))))
      (pss_one (ps_ret (pe_callTy (ck_tuple K) (by rfl) T.tuple bt_tuple (pa_cons (pv 3) pa_nil)))))), ?_⟩
  rintro m b σ H as d Q ⟨rows, right, rfl, hS, h1, hr1, hrb, hd0, hdb, rfl⟩ Ev q
  refine q_parNew Ev (g_call (ga_cons (g_var rfl) ga_nil) ⟨rows, rfl, hS, h1, hS.1, rfl⟩) fun p σ1 H1 np hb E1 => ?_
  refine q_forO (i0 := 4) (zs := rg 0 rows.length) (e := D.int) (u := fun z ds => ds.set 4 (.im (.int z))) E1 ((gi_rng1 (ga_cons (g_cb (ga_cons (g_var rfl) ga_nil) onk_lenL) ga_nil) (by rw [List.length_map]; have := hS.1; omega)).is (by rw [Int.toNat_natCast, List.length_map])) (fun z _ => tg_name)
    (fun i ds' ys' => ys' = (List.range i).map (fun k => wD (wt rows right k)) ∧ ∃ e4 e5 e6 e7, ds' = [.im (.lst (rows.map tI)), .im (lI right), .im (.int (det rows)), .raw (.ref p), e4, e5, e6, e7]) ⟨rfl, _, _, _, _, rfl⟩ ?_ ?_
  · rintro bb k z ds' ys' σ' H' N hz ⟨rfl, e4, e5, e6, e7, rfl⟩ E' hN
    obtain ⟨hk, rfl⟩ := rg_get hz
    have ez : (0 : Int) + (k : Int) = (k : Int) := Int.zero_add _
    rw [ez] at E'
    have hk0 : (k : Int).toNat = k := by omega
    have hk1 : ((k : Int) + 1).toNat = k + 1 := by omega
    have hc := sq_chg (k := k) hS hr1 hrb hk
    refine q_asg E' (g_lcA (zs := rows.zip right) (e := rvD) (u := fun z ds => (ds.set 6 (.im (tI z.1))).set 7 (.im (.int z.2))) (fun z => tI (z.1.take k ++ [z.2] ++ z.1.drop (k + 1)))
      ((gi_zip (K := K) (ga_cons (g_var rfl) (ga_cons (g_var rfl) ga_nil))).is (zip_rv rows right)) (by rw [List.length_zip]; have := hS.1; omega) (fun z _ => tg_pair (K := K))
      (fun p acc z hz => G.is (g_op (g_op (g_slice (g_var rfl) go_none (go_some (g_var rfl)) (os_toT (by omega))) (g_tup (ga_cons (g_var rfl) ga_nil) (by simp)) (o2_addT ?_)) (g_slice (g_var rfl) (go_some (g_op (g_var rfl) g_int o2_addI)) go_none (os_fromT (by omega))) (o2_addT ?_)) ?_)) fun σ2 H2 E2 => ?_
    · have := (hS.2 z.1 (List.of_mem_zip hz).1).1
      have := hS.1
      rw [List.length_take, List.length_map, List.length_singleton]
      omega
    · have := (hS.2 z.1 (List.of_mem_zip hz).1).1
      have := hS.1
      rw [List.length_append, List.length_take, List.length_drop, List.length_map, List.length_singleton]
      omega
    · show D.tup _ = D.tup _
      rw [List.map_append, List.map_append, List.map_take, List.map_drop, hk0, hk1] <;> rfl
    · have e1 : (rows.zip right).map (fun z => tI (z.1.take k ++ [z.2] ++ z.1.drop (k + 1))) = (chg rows right k).map tI := by
        unfold chg
        rw [List.map_zipWith, List.zip, List.map_zipWith]
      rw [e1] at E2
      refine s_app E2 rfl (by rw [List.length_map, List.length_range]; have := hS.1; omega) (g_call (ga_cons (g_call (ga_cons (g_var rfl) ga_nil) ⟨chg rows right k, rfl, hc.1, by omega, by have := hS.1; omega, rfl⟩) (ga_cons (g_var rfl) ga_nil)) ⟨_, _, rfl, hd0, hdb, rfl⟩) fun H3 E3 => hN _ _ _ H3 ⟨?_, _, _, _, _, rfl⟩ E3
      rw [List.range_succ, List.map_append] <;> rfl
  · rintro ds' ys' σ' H' ⟨rfl, e4, e5, e6, e7, rfl⟩ E'
    rw [rg_len] at E'
    exact s_ret (E'.done (i := 3) np hb rfl) (g_cb (ga_cons (g_var rfl) ga_nil) onk_tupL) q

def cols (vs : List (List Int)) : List (List Int) := (rg 0 vs.length).map fun a => vs.map fun v => v.getD a.toNat 0
theorem sq_cols {vs : List (List Int)} (h : Sq vs) : Sq (cols vs) ∧ (cols vs).length = vs.length := by
  have h2 : (cols vs).length = vs.length := by
    unfold cols
    rw [List.length_map, rg_len]
  refine ⟨⟨by have := h.1; omega, fun r hr => ?_⟩, h2⟩
  rw [h2]
  obtain ⟨a, ha, rfl⟩ := List.mem_map.mp hr
  refine ⟨by rw [List.length_map], fun x hx => ?_⟩
  obtain ⟨v, hv, rfl⟩ := List.mem_map.mp hx
  have hs := h.2 v hv
  rw [List.getD_eq_getElem?_getD]
  cases e : v[a.toNat]? with
  | none => simp
  | some y => exact hs.2 y (List.mem_of_getElem? e)
def R_weights_of (as : List D) (d : D) : Prop := ∃ (vs : List (List Int)) (way : List Int), as = [.tup (vs.map tI), tI way] ∧ Sq vs ∧ 1 ≤ vs.length ∧ way.length = vs.length ∧ (∀ x ∈ way, x.natAbs ≤ 1000) ∧ det (cols vs) ≠ 0 ∧ (det (cols vs)).natAbs < 1000000 ∧
  d = .tup ((List.range vs.length).map fun k => wD (wt (cols vs) way k))
theorem len_weights_of {as : List D} {d : D} (h : R_weights_of as d) : as.length = 2 := by
  obtain ⟨x, y, rfl, _⟩ := h
  rfl
abbrev s_weights_of : Stmt := topS 19
theorem sc_weights_of : FnScope ["vectors", "way", "size", "columns", "one", "axis"] ["vectors", "way"] (defScope s_weights_of) := ⟨rfl, rfl, rfl, by decide +kernel, rfl, by decide +kernel, by decide +kernel⟩
-- slots: 0 vectors*, 1 way, 2 size, 3 columns, 4 one, 5 axis
theorem ok_weights_of {f : Addr} {fd : FuncData} (F : Fun K "weights_of" "weights_of" s_weights_of f fd) (bd : Binds K fd ["vectors", "way"] []) (mgf : mg "weights_of" = some (.ref f)) (T : Top mg) (h_cramer : Has P w K mg base "cramer" ["rows", "right"] 4 (spR R_cramer)) :
    Has P w K mg base "weights_of" ["vectors", "way"] 5 (spR R_weights_of) := by
  have nd := sc_weights_of.nd
  refine ⟨f, fd, fun_ok F sc_weights_of (fun as d h => ?_) (fun cdv A outer s H E hr => ?_), mgf, F.kp, bd⟩
  · exact len_weights_of h
  refine ⟨_, (pss_cons (ps_set (i := 2) nd rfl (Or.inl rfl) (pe_callB (ck_len K) (by rfl) T.len bt_len (pa_cons (pv 0) pa_nil)))
      (pss_cons (ps_setLc (i := 3) (own := [("axis", 5)]) (g := gName 5) (by rfl) nd rfl rfl (sw_true rfl rfl rfl (by decide +kernel)) (pi_range1 (by rfl) T.range (pa_cons (pv 2) pa_nil)) (blkOk_by (own := [("axis", 5)]) (by kernel_rfl)) (fun _ _ _ _ _ => (pg_name (i := 5) nd rfl (Or.inr rfl))) (fun _ _ _ _ _ => pts_nil) (fun _ _ _ _ _ => (pe_callTy (ck_tuple K) (by rfl) T.tuple bt_tuple (pa_cons (pe_lc (own := [("one", 4)]) (g := gName 4) (by rfl) nd (pik_tup K (pv 0)) (blkOk_by (own := [("one", 4)]) (by kernel_rfl)) (fun _ _ _ _ _ => (pg_name (i := 4) nd rfl (Or.inl rfl))) (fun _ _ _ _ _ => pts_nil) (fun _ _ _ _ _ => (pe_ix (ixk K) (pv 4) (pv 5) (fun _ _ => rfl)))) pa_nil))))
      (pss_one (ps_ret (pe_callH h_cramer hr (by decide) (by rfl) (pa_cons (pv 3) (pa_cons (pe_callTy (ck_list K) (by rfl) T.list bt_list (pa_cons (pv 1) pa_nil)) pa_nil))))))), ?_⟩
  rintro m b σ H as d Q ⟨vs, way, rfl, hS, h1, hw1, hwb, hd0, hdb, rfl⟩ Ev q
  have hl3 := hS.1
  have hC := sq_cols hS
  refine q_asg Ev (G.is (g_cb (ga_cons (g_var rfl) ga_nil) onk_lenT) (by rw [List.length_map])) fun σ1 H1 E1 => ?_
  refine q_asg E1 (g_lcA (zs := rg 0 vs.length) (e := D.int) (u := fun z ds => ds.set 5 (.im (.int z))) (fun a => tI (vs.map fun v => v.getD a.toNat 0)) ((gi_rng1 (ga_cons (g_var rfl) ga_nil) (by omega)).is (by rw [Int.toNat_natCast])) (by rw [rg_len]; omega) (fun z _ => tg_name)
    (fun p acc z hz => G.is (g_cb (ga_cons (g_lcA (zs := vs) (e := tI) (u := fun v ds => ds.set 4 (.im (tI v))) (fun v => D.int (v.getD z.toNat 0)) (gi_tup (g_var rfl)) (by omega) (fun z _ => tg_name) (fun p2 acc2 v hv => ?_)) ga_nil) onk_tupL) ?_)) fun σ2 H2 E2 => ?_
  · obtain ⟨i, hi⟩ := List.getElem?_of_mem hz
    obtain ⟨hi1, rfl⟩ := rg_get hi
    have hs := (hS.2 v hv).1
    have e : ((0 : Int) + (i : Int)).toNat = i := by omega
    refine g_op (g_var rfl) (g_var rfl) (o2_ixT (xs := v.map D.int) (by omega) ?_)
    rw [e, List.getElem?_map, List.getD_eq_getElem?_getD, List.getElem?_eq_getElem (by omega)] <;> rfl
  · show D.tup _ = D.tup _
    rw [List.map_map] <;> rfl
  · refine s_ret E2 (g_call (ga_cons (G.is (g_var rfl) ?_) (ga_cons (g_cb (ga_cons (g_var rfl) ga_nil) onk_listT) ga_nil)) ⟨cols vs, way, rfl, hC.1, by omega, by omega, hwb, hd0, hdb, by rw [hC.2]⟩) q
    show D.lst _ = D.lst _
    unfold cols
    rw [List.map_map] <;> rfl
end
end Lk
set_option Elab.async false
set_option linter.all false
set_option maxRecDepth 100000
set_option maxHeartbeats 4000000
namespace Lk
open PySem PySem.Spec PyProof.Rows L2 RZ
open Evl (Ex)
section
variable {P : Program} {w : World} {K : PySem.W.Frag} {mg : Str → Option Value} {base : Heap}
/-! need_cone, box_of, cone_box -/
structure ConeOk (apex : List Int) (vs : List (List Int)) (pl : List Int) : Prop where
  n1 : 1 ≤ vs.length
  n3 : vs.length ≤ 3
  al : apex.length = vs.length
  ab : ∀ x ∈ apex, -3 ≤ x ∧ x ≤ 3
  vl : ∀ v ∈ vs, v.length = vs.length
  vb : ∀ v ∈ vs, ∀ x ∈ v, -3 ≤ x ∧ x ≤ 3
  vp : ∀ v ∈ vs, prim v = v
  d0 : det vs ≠ 0
  pa : pl.Pairwise (· < ·)
  pb : ∀ k ∈ pl, 0 ≤ k ∧ k < (vs.length : Int)
  pn : pl.length ≤ 3
def coneD (apex : List Int) (vs : List (List Int)) (pl : List Int) : D := .tup [tI apex, .tup (vs.map tI), tI pl]
theorem ConeOk.sq {apex : List Int} {vs : List (List Int)} {pl : List Int} (c : ConeOk apex vs pl) : Sq vs := ⟨c.n3, fun r hr => ⟨c.vl r hr, fun x hx => by have := c.vb r hr x hx; omega⟩⟩
def R_need_cone (as : List D) (d : D) : Prop := ∃ apex vs pl, as = [coneD apex vs pl] ∧ ConeOk apex vs pl ∧ d = .non
theorem len_need_cone {as : List D} {d : D} (h : R_need_cone as d) : as.length = 1 := by
  obtain ⟨x, y, z, rfl, _⟩ := h
  rfl
abbrev s_need_cone : Stmt := topS 18
theorem sc_need_cone : FnScope ["cone", "apex", "vectors", "places", "size", "one", "k"] ["cone"] (defScope s_need_cone) := ⟨rfl, rfl, rfl, by decide +kernel, rfl, by decide +kernel, by decide +kernel⟩
-- slots: 0 cone, 1 apex, 2 vectors, 3 places, 4 size*, 5 one, 6 k
theorem ok_need_cone {f : Addr} {fd : FuncData} (F : Fun K "need_cone" "need_cone" s_need_cone f fd) (bd : Binds K fd ["cone"] []) (mgf : mg "need_cone" = some (.ref f)) (T : Top mg) (h_determinant : Has P w K mg base "determinant" ["rows"] 3 (spR R_determinant)) (h_is_vector : Has P w K mg base "is_vector" ["value", "size", "low", "high"] 2 (spR R_is_vector)) (h_primitive : Has P w K mg base "primitive" ["one"] 2 (spR R_primitive)) (h_is_in : Has P w K mg base "is_in" ["value", "least", "most"] 1 (spR R_is_in)) :
    Has P w K mg base "need_cone" ["cone"] 4 (spR R_need_cone) := by
  have nd := sc_need_cone.nd
  obtain ⟨_, mFar⟩ := T.far
  obtain ⟨_, mFarA⟩ := T.farA
  refine ⟨f, fd, fun_ok F sc_need_cone (fun as d h => ?_) (fun cdv A outer s H E hr => ?_), mgf, F.kp, bd⟩
  · exact len_need_cone h
  refine ⟨_, (pss_cons (ps_if (PW.pt (pw_or (pt_not (pt_val (pe_callB (ck_isi K) (by rfl) T.isinstance bt_isinstance (pa_cons (pv 0) (pa_cons (pe_bltn (v := .ty "tuple") (by rfl) T.tuple bt_tuple rfl) pa_nil))))) (pw_or1 (pt_cmpR (opk_ne K (hu64 hr)) (pe_callB (ck_len K) (by rfl) T.len bt_len (pa_cons (pv 0) pa_nil)) pe_int (nomark _))))) (pss_one ps_never) pss_nil)
      (pss_cons (ps_asg (pv 0) (pgk_tup K (by rfl) (pgs_cons (pg_name (i := 1) nd rfl (Or.inl rfl)) (pgs_cons (pg_name (i := 2) nd rfl (Or.inl rfl)) (pgs_cons (pg_name (i := 3) nd rfl (Or.inl rfl)) pgs_nil)))))
      (pss_cons (ps_if (PW.pt (pw_or (pt_not (pt_val (pe_callB (ck_isi K) (by rfl) T.isinstance bt_isinstance (pa_cons (pv 1) (pa_cons (pe_bltn (v := .ty "tuple") (by rfl) T.tuple bt_tuple rfl) pa_nil))))) (pw_or1 (pt_not (pt_chain op_le op_le pe_int (pe_callB (ck_len K) (by rfl) T.len bt_len (pa_cons (pv 1) pa_nil)) pe_int))))) (pss_one ps_never) pss_nil)
      (pss_cons (ps_set (i := 4) nd rfl (Or.inr rfl) (pe_callB (ck_len K) (by rfl) T.len bt_len (pa_cons (pv 1) pa_nil)))
      (pss_cons (ps_if (PW.pt (pw_or (pt_not (pt_val (pe_callH h_is_vector hr (by decide) (by rfl) (pa_cons (pv 1) (pa_cons (pv 4) (pa_cons (pe_un un_neg (pe_glob (v := .int 1000) (by rfl) mFarA ⟨_, rfl⟩)) (pa_cons (pe_glob (v := .int 1000) (by rfl) mFarA ⟨_, rfl⟩) pa_nil))))))) (pw_or (pt_not (pt_val (pe_callB (ck_isi K) (by rfl) T.isinstance bt_isinstance (pa_cons (pv 2) (pa_cons (pe_bltn (v := .ty "tuple") (by rfl) T.tuple bt_tuple rfl) pa_nil))))) (pw_or1 (pt_cmpR (opk_ne K (hu64 hr)) (pe_callB (ck_len K) (by rfl) T.len bt_len (pa_cons (pv 2) pa_nil)) (pv 4) (nomark _)))))) (pss_one ps_never) pss_nil)
      (pss_cons (ps_for PassesOwn.never rfl (pik_tup K (pv 2)) (pg_name (i := 5) nd rfl (Or.inl rfl)) (pss_one (ps_if (PW.pt (pw_or (pt_not (pt_val (pe_callH h_is_vector hr (by decide) (by rfl) (pa_cons (pv 5) (pa_cons (pv 4) (pa_cons (pe_un un_neg (pe_glob (v := .int 50) (by rfl) mFar ⟨_, rfl⟩)) (pa_cons (pe_glob (v := .int 50) (by rfl) mFar ⟨_, rfl⟩) pa_nil))))))) (pw_or1 (pt_cmpR (opk_ne K (hu64 hr)) (pe_callH h_primitive hr (by decide) (by rfl) (pa_cons (pv 5) pa_nil)) (pv 5) (nomark _))))) (pss_one ps_never) pss_nil)))
      (pss_cons (ps_if (pt_cmpR (opk_eq K (hu64 hr)) (pe_callH h_determinant hr (by decide) (by rfl) (pa_cons (pe_callTy (ck_list K) (by rfl) T.list bt_list (pa_cons (pv 2) pa_nil)) pa_nil)) pe_int (nomark _)) (pss_one ps_never) pss_nil)
      (pss_cons (ps_if (PW.pt (pw_or (pt_not (pt_val (pe_callB (ck_isi K) (by rfl) T.isinstance bt_isinstance (pa_cons (pv 3) (pa_cons (pe_bltn (v := .ty "tuple") (by rfl) T.tuple bt_tuple rfl) pa_nil))))) (pw_or1 (pt_cmpR (opk_ne K (hu64 hr)) (pe_lc (own := [("k", 6)]) (g := gName 6) (by rfl) nd (pik_tup K (pv 3)) (blkOk_by (own := [("k", 6)]) (by kernel_rfl)) (fun _ _ _ _ _ => (pg_name (i := 6) nd rfl (Or.inl rfl))) (fun _ _ _ _ _ => (pts_one (pt_not (pt_val (pe_callH h_is_in hr (by decide) (by rfl) (pa_cons (pv 6) (pa_cons pe_int (pa_cons (pe_op op_sub (pv 4) pe_int) pa_nil)))))))) (fun _ _ _ _ _ => (pv 6))) (pe_lst pa_nil) (nomark _))))) (pss_one ps_never) pss_nil)
      (pss_one (ps_if (pt_cmpR (opk_ne K (hu64 hr)) (pe_callTy (ck_list K) (by rfl) T.list bt_list (pa_cons (pv 3) pa_nil)) (pe_callB (cr_sortedX w (by rfl)) (by rfl) T.sorted bt_sorted (pa_cons (pe_callTy (cr_setX K w (by rfl)) (by rfl) T.set bt_set (pa_cons (pv 3) pa_nil)) pa_nil)) (nomark _)) (pss_one ps_never) pss_nil)))))))))), ?_⟩
  rintro m b σ H as d Q ⟨apex, vs, pl, rfl, C, rfl⟩ Ev q
  have n1 := C.n1
  have n3 := C.n3
  have al := C.al
  refine s_when (c := false) Ev (GT.is (gt_or (gt_not (gt_B (g_cb (ga_cons (g_var rfl) (ga_cons g_ty ga_nil)) (on_isi (c := true) (fun _ h => nomatch h) kit_tt)))) fun _ => gt_test (g_op (g_cb (ga_cons (g_var rfl) ga_nil) onk_lenT) g_int o2_neI)) (by simp)) (fun hc => nomatch hc) (fun hc H2 E2 => ?_)
  refine q_unp3 E2 (g_var rfl) fun σ3 H3 E3 => ?_
  have hlen : ∀ ds, ds[1]? = some (.im (tI apex)) → G m (tCB (rLen K) (tCons (tVar 1) tNil)) ds (.int (vs.length : Int)) := fun ds h => G.is (g_cb (ga_cons (g_var h) ga_nil) onk_lenT) (by rw [List.length_map, al])
  refine s_when (c := false) E3 (GT.is (gt_or (gt_not (gt_B (g_cb (ga_cons (g_var rfl) (ga_cons g_ty ga_nil)) (on_isi (c := true) (fun _ h => nomatch h) kit_tt)))) fun _ => gt_not (gt_test (g_chain g_int (hlen _ rfl) (fun _ => g_int) o2_le o2_le))) ?_) (fun hc => nomatch hc) (fun hc H4 E4 => ?_)
  · simp
    omega
  refine q_asg E4 (hlen _ rfl) fun σ5 H5 E5 => ?_
  refine s_when (c := false) E5 (GT.is (gt_or (gt_not (gt_B (g_call (ga_cons (g_var rfl) (ga_cons (g_var rfl) (ga_cons (g_un g_int o1_neg) (ga_cons g_int ga_nil)))) ⟨apex, _, _, _, rfl, by omega, by rw [al], fun x hx => by have := C.ab x hx; omega, rfl⟩))) fun _ =>
    gt_or (gt_not (gt_B (g_cb (ga_cons (g_var rfl) (ga_cons g_ty ga_nil)) (on_isi (c := true) (fun _ h => nomatch h) kit_tt)))) fun _ => gt_test (g_op (g_cb (ga_cons (g_var rfl) ga_nil) onk_lenT) (g_var rfl) o2_neI)) ?_) (fun hc => nomatch hc) (fun hc H6 E6 => ?_)
  · simp
  refine q_for (i0 := 5) (zs := vs) (e := tI) (u := fun z ds => ds.set 5 (.im (tI z))) E6 (gi_tup (g_var rfl)) (fun z _ => tg_name)
    (fun i ds' => ∃ e5 e6, ds' = [.im (coneD apex vs pl), .im (tI apex), .im (.tup (vs.map tI)), .im (tI pl), .im (.int (vs.length : Int)), e5, e6]) ⟨_, _, rfl⟩ ?_ ?_
  · rintro bb k z ds' σ' H' N hz ⟨e5, e6, rfl⟩ E' hN
    have hm := List.mem_of_getElem? hz
    have hv := C.vl z hm
    refine s_whenL (c := false) E' (GT.is (gt_or (gt_not (gt_B (g_call (ga_cons (g_var rfl) (ga_cons (g_var rfl) (ga_cons (g_un g_int o1_neg) (ga_cons g_int ga_nil)))) ⟨z, _, _, _, rfl, by omega, by rw [hv], fun x hx => by have := C.vb z hm x hx; omega, rfl⟩))) fun _ =>
      gt_test (g_op (g_call (ga_cons (g_var rfl) ga_nil) ⟨z, rfl, by omega, fun x hx => by have := C.vb z hm x hx; omega, rfl⟩) (g_var rfl) (o2_neT (xs := prim z) (ys := z)))) ?_) (fun hc => nomatch hc) (fun hc H7 E7 => hN _ _ _ ⟨_, _, rfl⟩ E7)
    rw [C.vp z hm]
    simp
  · rintro ds' σ' H' ⟨e5, e6, rfl⟩ E'
    refine s_when (c := false) E' (GT.is (gt_test (g_op (g_call (ga_cons (g_cb (ga_cons (g_var rfl) ga_nil) onk_listT) ga_nil) ⟨vs, rfl, C.sq, n1, n3, rfl⟩) g_int o2_eqI)) ?_) (fun hc => nomatch hc) (fun hc H7 E7 => ?_)
    · simpa using C.d0
    refine s_when (c := false) E7 (GT.is (gt_or (gt_not (gt_B (g_cb (ga_cons (g_var rfl) (ga_cons g_ty ga_nil)) (on_isi (c := true) (fun _ h => nomatch h) kit_tt)))) fun _ =>
      gt_test (g_op (g_lc (zs := pl) (e := D.int) (u := fun z ds => ds.set 6 (.im (.int z))) (fun _ => false) D.int (gi_tup (g_var rfl)) (by have := C.pn; omega) (fun z _ => tg_name)
        (fun p acc z hz => GT.is (gt_not (gt_B (g_call (ga_cons (g_var rfl) (ga_cons g_int (ga_cons (g_op (g_var rfl) g_int o2_sub) ga_nil))) ⟨_, _, _, rfl, rfl⟩))) ?_) (fun p acc z _ h => nomatch h)) (g_lst ga_nil (by simp)) (o2_neL (xs := pl.filter fun _ => false) (ys := [])))) ?_) (fun hc => nomatch hc) (fun hc H8 E8 => ?_)
    · have := C.pb z hz
      simp
      omega
    · simp
    refine s_whenL (c := false) E8 (GT.is (gt_test (g_op (g_cb (ga_cons (g_var rfl) ga_nil) onk_listT) (g_sortSet (g_var rfl) (by have := C.pn; omega) C.pa) (o2_neL (xs := pl) (ys := pl)))) ?_) (fun hc => nomatch hc) (fun hc H9 E9 => ?_)
    · simp
    · exact q .non H9 E9.x E9.s.j rfl

/-! #### the box -/
def isK (p : Int × Int) (c : Bool) : Bool := if c = true then decide (0 < p.1) && decide (p.1 ≤ p.2) else decide (0 ≤ p.1) && decide (p.1 < p.2)
def lows (vs : List (List Int)) : List Int := (rg 0 vs.length).map fun a => (vs.map fun v => min 0 (v.getD a.toNat 0)).sum
def highs (vs : List (List Int)) : List Int := (rg 0 vs.length).map fun a => (vs.map fun v => max 0 (v.getD a.toNat 0)).sum
def bxs (vs : List (List Int)) : List (List Int) := boxPts ((lows vs).zip (highs vs))
def kept (vs : List (List Int)) (pl : List Int) (way : List Int) : Bool := (List.range vs.length).all fun k => isK (wt (cols vs) way k) (decide ((k : Int) ∈ pl))
def shift (apex way : List Int) : List Int := List.zipWith (· + ·) apex way
def boxOf (apex : List Int) (vs : List (List Int)) (pl : List Int) : List (List Int) := ((bxs vs).filter (kept vs pl)).map (shift apex)
section
variable {apex pl : List Int} {vs : List (List Int)}
theorem sum_b (f : List Int → Int) (l h : Int) : ∀ xs : List (List Int), (∀ x ∈ xs, l ≤ f x ∧ f x ≤ h) → (xs.length : Int) * l ≤ (xs.map f).sum ∧ (xs.map f).sum ≤ (xs.length : Int) * h
  | [], _ => by simp
  | x :: xs, hx => by
    have h1 := sum_b f l h xs fun y hy => hx y (List.mem_cons_of_mem _ hy)
    have h2 := hx x List.mem_cons_self
    rw [List.map_cons, List.sum_cons, List.length_cons]
    have e1 : ((xs.length + 1 : Nat) : Int) * l = (xs.length : Int) * l + l := by rw [Int.natCast_add, Int.add_mul] <;> simp
    have e2 : ((xs.length + 1 : Nat) : Int) * h = (xs.length : Int) * h + h := by rw [Int.natCast_add, Int.add_mul] <;> simp
    rw [e1, e2]
    omega
theorem sum_sub (f g : List Int → Int) : ∀ xs : List (List Int), (xs.map g).sum - (xs.map f).sum = (xs.map fun x => g x - f x).sum
  | [] => rfl
  | x :: xs => by
    have := sum_sub f g xs
    rw [List.map_cons, List.map_cons, List.map_cons, List.sum_cons, List.sum_cons, List.sum_cons]
    omega
theorem ConeOk.ge (C : ConeOk apex vs pl) {v : List Int} (hv : v ∈ vs) (k : Nat) : -3 ≤ v.getD k 0 ∧ v.getD k 0 ≤ 3 := by
  rw [List.getD_eq_getElem?_getD]
  cases e : v[k]? with
  | none => simp
  | some x => exact C.vb v hv x (List.mem_of_getElem? e)
theorem low_b (C : ConeOk apex vs pl) (k : Nat) : -9 ≤ (vs.map fun v => min 0 (v.getD k 0)).sum ∧ (vs.map fun v => min 0 (v.getD k 0)).sum ≤ 0 := by
  have h := sum_b (fun v => min 0 (v.getD k 0)) (-3) 0 vs fun v hv => by have := C.ge hv k; omega
  have := C.n3
  omega
theorem high_b (C : ConeOk apex vs pl) (k : Nat) : 0 ≤ (vs.map fun v => max 0 (v.getD k 0)).sum ∧ (vs.map fun v => max 0 (v.getD k 0)).sum ≤ 9 := by
  have h := sum_b (fun v => max 0 (v.getD k 0)) 0 3 vs fun v hv => by have := C.ge hv k; omega
  have := C.n3
  omega
theorem wid_b (C : ConeOk apex vs pl) (k : Nat) : (vs.map fun v => max 0 (v.getD k 0)).sum - (vs.map fun v => min 0 (v.getD k 0)).sum ≤ 9 := by
  rw [sum_sub]
  have h := sum_b (fun v => max 0 (v.getD k 0) - min 0 (v.getD k 0)) 0 3 vs fun v hv => by have := C.ge hv k; omega
  have := C.n3
  omega
theorem lows_len : (lows vs).length = vs.length := by unfold lows; rw [List.length_map, rg_len]
theorem highs_len : (highs vs).length = vs.length := by unfold highs; rw [List.length_map, rg_len]
theorem lows_mem (C : ConeOk apex vs pl) : ∀ x ∈ lows vs, -9 ≤ x ∧ x ≤ 0 := fun x hx => by
  obtain ⟨a, _, rfl⟩ := List.mem_map.mp hx
  exact low_b C _
theorem highs_mem (C : ConeOk apex vs pl) : ∀ x ∈ highs vs, 0 ≤ x ∧ x ≤ 9 := fun x hx => by
  obtain ⟨a, _, rfl⟩ := List.mem_map.mp hx
  exact high_b C _
theorem lh_zip : (lows vs).zip (highs vs) = (rg 0 vs.length).map fun a => ((vs.map fun v => min 0 (v.getD a.toNat 0)).sum, (vs.map fun v => max 0 (v.getD a.toNat 0)).sum) := by
  unfold lows highs
  rw [List.zip_map']
theorem lh_mem (C : ConeOk apex vs pl) : ∀ lh ∈ (lows vs).zip (highs vs), lh.2 - lh.1 ≤ 9 := fun lh hl => by
  rw [lh_zip] at hl
  obtain ⟨a, _, rfl⟩ := List.mem_map.mp hl
  exact wid_b C _
theorem bxs_len {p : List Int} (h : p ∈ bxs vs) : p.length = vs.length := by
  rw [boxPts_mem h, List.length_zip, lows_len, highs_len, Nat.min_self]
theorem boxPts_in {ls : List (Int × Int)} {p : List Int} (h : p ∈ boxPts ls) : ∀ (i : Nat) (x : Int), p[i]? = some x → ∃ lh, ls[i]? = some lh ∧ lh.1 ≤ x ∧ x ≤ lh.2 := by
  have g : ∀ (ls : List (Int × Int)) (done : List (Int × Int)) (acc : List (List Int)), (∀ p ∈ acc, p.length = done.length ∧ ∀ (i : Nat) (x : Int), p[i]? = some x → ∃ lh, done[i]? = some lh ∧ lh.1 ≤ x ∧ x ≤ lh.2) →
      ∀ p ∈ ls.foldl boxStep acc, ∀ (i : Nat) (x : Int), p[i]? = some x → ∃ lh, (done ++ ls)[i]? = some lh ∧ lh.1 ≤ x ∧ x ≤ lh.2 := by
    intro ls
    induction ls with
    | nil =>
      intro done acc ha p hp i x hx
      rw [List.append_nil]
      exact (ha p hp).2 i x hx
    | cons lh ls ih =>
      intro done acc ha p hp
      have := ih (done ++ [lh]) (boxStep acc lh) (fun p hp => by
        obtain ⟨a, h1, h2⟩ := List.mem_flatMap.mp hp
        obtain ⟨y, hy, rfl⟩ := List.mem_map.mp h2
        obtain ⟨hl, hb⟩ := ha a h1
        refine ⟨by rw [List.length_append, List.length_append, hl] <;> rfl, fun i x hx => ?_⟩
        by_cases hi : i < a.length
        · rw [List.getElem?_append_left hi] at hx
          rw [List.getElem?_append_left (by omega)]
          exact hb i x hx
        · rw [List.getElem?_append_right (by omega)] at hx
          rw [List.getElem?_append_right (by omega)]
          have e0 : i - a.length = 0 := by
            cases hq : i - a.length with
            | zero => rfl
            | succ n =>
              rw [hq] at hx
              simp at hx
          rw [e0] at hx
          rw [show i - done.length = 0 by omega]
          cases hx
          obtain ⟨j, hj⟩ := List.getElem?_of_mem hy
          obtain ⟨h3, h4⟩ := rg_get hj
          exact ⟨lh, rfl, by omega, by omega⟩) p hp
      intro i x hx
      obtain ⟨lh2, h1, h2⟩ := this i x hx
      rw [List.append_assoc] at h1
      exact ⟨lh2, h1, h2⟩
  intro i x hx
  have := g ls [] [[]] (by intro p hp; rw [List.mem_singleton.mp hp]; exact ⟨rfl, fun i x hx => by simp at hx⟩) p h i x hx
  rwa [List.nil_append] at this
theorem bxs_mem (C : ConeOk apex vs pl) {p : List Int} (h : p ∈ bxs vs) : ∀ x ∈ p, -9 ≤ x ∧ x ≤ 9 := fun x hx => by
  obtain ⟨i, hi⟩ := List.getElem?_of_mem hx
  obtain ⟨lh, h1, h2, h3⟩ := boxPts_in h i x hi
  have hm := List.mem_of_getElem? h1
  have a := lows_mem C lh.1 (List.of_mem_zip hm).1
  have c := highs_mem C lh.2 (List.of_mem_zip hm).2
  omega
/-! in order -/
theorem ltL_snoc : ∀ {p q : List Int} {x y : Int}, p.length = q.length → ltL (p ++ [x]) (q ++ [y]) = if p = q then decide (x < y) else ltL p q
  | [], [], x, y, _ => by
    show (if x = y then ltL [] [] else decide (x < y)) = _
    by_cases e : x = y
    · subst e
      simp [ltL]
    · simp [e]
  | [], _ :: _, _, _, h => by simp at h
  | _ :: _, [], _, _, h => by simp at h
  | a :: p, c :: q, x, y, h => by
    have ih := ltL_snoc (p := p) (q := q) (x := x) (y := y) (by simpa using h)
    show (if a = c then ltL (p ++ [x]) (q ++ [y]) else decide (a < c)) = (if a :: p = c :: q then decide (x < y) else (if a = c then ltL p q else decide (a < c)))
    rw [ih]
    by_cases e : a = c
    · subst e
      by_cases e2 : p = q <;> simp [e2]
    · simp [e]
theorem rg_pw (lo : Int) (n : Nat) : (rg lo n).Pairwise (· < ·) := by
  unfold rg
  rw [List.pairwise_map]
  exact List.Pairwise.imp (fun h => by omega) List.pairwise_lt_range
theorem ltL_irr : ∀ p : List Int, ltL p p = false
  | [] => rfl
  | x :: p => by
    unfold ltL
    rw [if_pos rfl]
    exact ltL_irr p
theorem boxStep_pw {acc : List (List Int)} {lh : Int × Int} {n : Nat} (hl : ∀ p ∈ acc, p.length = n) (h : acc.Pairwise fun x y => ltL x y = true) : (boxStep acc lh).Pairwise fun x y => ltL x y = true := by
  unfold boxStep
  rw [List.pairwise_flatMap]
  refine ⟨fun p hp => ?_, ?_⟩
  · rw [List.pairwise_map]
    refine (rg_pw _ _).imp fun {x y} h => ?_
    rw [ltL_snoc rfl, if_pos rfl]
    exact decide_eq_true h
  · refine List.Pairwise.imp_of_mem (fun {p q} hp hq hpq x hx y hy => ?_) h
    obtain ⟨x', _, rfl⟩ := List.mem_map.mp hx
    obtain ⟨y', _, rfl⟩ := List.mem_map.mp hy
    rw [ltL_snoc (by rw [hl p hp, hl q hq]), if_neg]
    · exact hpq
    · intro e
      subst e
      rw [ltL_irr] at hpq
      cases hpq
theorem boxPts_pw (ls : List (Int × Int)) : (boxPts ls).Pairwise fun x y => ltL x y = true := by
  have g : ∀ (ls : List (Int × Int)) (acc : List (List Int)) (n : Nat), (∀ p ∈ acc, p.length = n) → (acc.Pairwise fun x y => ltL x y = true) → (ls.foldl boxStep acc).Pairwise fun x y => ltL x y = true := by
    intro ls
    induction ls with
    | nil => intro acc n _ h; exact h
    | cons lh ls ih =>
      intro acc n hl h
      exact ih (boxStep acc lh) (n + 1) (fun p hp => by
        obtain ⟨a, h1, h2⟩ := List.mem_flatMap.mp hp
        obtain ⟨x, _, rfl⟩ := List.mem_map.mp h2
        rw [List.length_append, hl a h1] <;> rfl) (boxStep_pw hl h)
  exact g ls [[]] 0 (by simp) (List.pairwise_singleton _ _)
theorem ltL_shift : ∀ {a p q : List Int}, a.length = p.length → a.length = q.length → ltL (shift a p) (shift a q) = ltL p q
  | [], [], [], _, _ => rfl
  | [], _ :: _, _, h, _ => by simp at h
  | [], [], _ :: _, _, h => by simp at h
  | _ :: _, [], _, h, _ => by simp at h
  | _ :: _, _ :: _, [], _, h => by simp at h
  | z :: a, x :: p, y :: q, h1, h2 => by
    have ih := ltL_shift (a := a) (p := p) (q := q) (by simpa using h1) (by simpa using h2)
    show (if z + x = z + y then ltL (shift a p) (shift a q) else decide (z + x < z + y)) = (if x = y then ltL p q else decide (x < y))
    rw [ih]
    by_cases e : x = y
    · subst e
      rw [if_pos rfl, if_pos rfl]
    · rw [if_neg e, if_neg (by omega)]
      exact decide_eq_decide.mpr (by omega)
theorem boxF_pw (hal : apex.length = vs.length) (c : List Int → Bool) : (((bxs vs).filter c).map (shift apex)).Pairwise fun x y => ltL y x = false := by
  rw [List.pairwise_map]
  refine List.Pairwise.imp_of_mem (fun {p q} hp hq h => ?_) ((boxPts_pw _).filter c)
  have hp' := bxs_len (List.mem_filter.mp hp).1
  have hq' := bxs_len (List.mem_filter.mp hq).1
  rw [ltL_shift (by omega) (by omega)]
  exact ltL_asym _ _ h
theorem boxF_len (hal : apex.length = vs.length) (c : List Int → Bool) : ∀ p ∈ ((bxs vs).filter c).map (shift apex), p.length = vs.length := fun p hp => by
  obtain ⟨a, ha, rfl⟩ := List.mem_map.mp hp
  have := bxs_len (List.mem_filter.mp ha).1
  unfold shift
  rw [List.length_zipWith]
  omega
theorem bxs_count (C : ConeOk apex vs pl) : (bxs vs).length ≤ 1000 := by
  have h1 := boxPts_take (lh_mem C) (vs.length - 1) (by have := C.n3; omega)
  have hl : ((lows vs).zip (highs vs)).length = vs.length := by rw [List.length_zip, lows_len, highs_len, Nat.min_self]
  have hn := C.n1
  have e : (lows vs).zip (highs vs) = ((lows vs).zip (highs vs)).take (vs.length - 1) ++ [((lows vs).zip (highs vs))[vs.length - 1]'(by omega)] := by
    rw [List.take_append_getElem (l := (lows vs).zip (highs vs)) (i := vs.length - 1) (by omega), List.take_of_length_le (by omega)]
  unfold bxs
  rw [e, boxPts_snoc]
  have := boxStep_len (acc := boxPts (((lows vs).zip (highs vs)).take (vs.length - 1))) (lh := ((lows vs).zip (highs vs))[vs.length - 1]'(by omega)) (lh_mem C _ (List.getElem_mem _))
  omega
end

theorem det_bound {rows : List (List Int)} (h : ∀ r ∈ rows, ∀ x ∈ r, x.natAbs ≤ 9) : (det rows).natAbs < 1000000 := by
  have m : ∀ x y : Int, (x * y).natAbs = x.natAbs * y.natAbs := Int.natAbs_mul
  have p : ∀ {x y : Nat} (B C : Nat), x ≤ B → y ≤ C → x * y ≤ B * C := fun B C h1 h2 => Nat.mul_le_mul h1 h2
  unfold det
  split
  · decide
  · next a => have := h [a] (by simp) a (by simp); omega
  · next a b c d =>
    have ha := h [a, b] (by simp) a (by simp)
    have hb := h [a, b] (by simp) b (by simp)
    have hc := h [c, d] (by simp) c (by simp)
    have hd := h [c, d] (by simp) d (by simp)
    have h1 := m a d
    have h2 := m b c
    have h3 := p 9 9 ha hd
    have h4 := p 9 9 hb hc
    omega
  · next a b c d e f g hh i =>
    have ha := h [a, b, c] (by simp) a (by simp)
    have hb := h [a, b, c] (by simp) b (by simp)
    have hc := h [a, b, c] (by simp) c (by simp)
    have hd := h [d, e, f] (by simp) d (by simp)
    have he := h [d, e, f] (by simp) e (by simp)
    have hf := h [d, e, f] (by simp) f (by simp)
    have hg := h [g, hh, i] (by simp) g (by simp)
    have hh' := h [g, hh, i] (by simp) hh (by simp)
    have hi := h [g, hh, i] (by simp) i (by simp)
    have e1 := m e i
    have e2 := m f hh
    have e3 := m d i
    have e4 := m f g
    have e5 := m d hh
    have e6 := m e g
    have p1 := p 9 9 he hi
    have p2 := p 9 9 hf hh'
    have p3 := p 9 9 hd hi
    have p4 := p 9 9 hf hg
    have p5 := p 9 9 hd hh'
    have p6 := p 9 9 he hg
    have q1 : (e * i - f * hh).natAbs ≤ 162 := by omega
    have q2 : (d * i - f * g).natAbs ≤ 162 := by omega
    have q3 : (d * hh - e * g).natAbs ≤ 162 := by omega
    have r1 := m a (e * i - f * hh)
    have r2 := m b (d * i - f * g)
    have r3 := m c (d * hh - e * g)
    have s1 := p 9 162 ha q1
    have s2 := p 9 162 hb q2
    have s3 := p 9 162 hc q3
    omega
  · decide
theorem det_cols {vs : List (List Int)} (h : Sq vs) : det (cols vs) = det vs := by
  have r1 : rg 0 1 = [0] := by decide
  have r2 : rg 0 2 = [0, 1] := by decide
  have r3 : rg 0 3 = [0, 1, 2] := by decide
  rcases sq_cases h with rfl | ⟨a, rfl⟩ | ⟨a, b, c, d, rfl⟩ | ⟨a, b, c, d, e, f, g, h, i, rfl⟩
  · rfl
  · simp [cols, r1, det]
  · simp [cols, r2, det]
    grind
  · simp [cols, r3, det]
    grind
theorem ConeOk.dc {apex pl : List Int} {vs : List (List Int)} (C : ConeOk apex vs pl) : det (cols vs) ≠ 0 ∧ (det (cols vs)).natAbs < 1000000 := by
  rw [det_cols C.sq]
  exact ⟨C.d0, det_bound fun r hr x hx => by have := C.vb r hr x hx; omega⟩
def R_box_of (as : List D) (d : D) : Prop := ∃ apex vs pl, as = [coneD apex vs pl] ∧ ConeOk apex vs pl ∧ d = .lst ((boxOf apex vs pl).map tI)
theorem len_box_of {as : List D} {d : D} (h : R_box_of as d) : as.length = 1 := by
  obtain ⟨x, y, z, rfl, _⟩ := h
  rfl
abbrev s_box_of : Stmt := topS 21
theorem sc_box_of : FnScope ["cone", "apex", "vectors", "places", "size", "found", "low", "one", "axis", "high", "way", "weights", "k"] ["cone"] (defScope s_box_of) := ⟨rfl, rfl, rfl, by decide +kernel, rfl, by decide +kernel, by decide +kernel⟩
-- slots: 0 cone, 1 apex, 2 vectors*, 3 places*, 4 size, 5 found, 6 low, 7 one, 8 axis, 9 high, 10 way, 11 weights*, 12 k
theorem ok_box_of {f : Addr} {fd : FuncData} (F : Fun K "box_of" "box_of" s_box_of f fd) (bd : Binds K fd ["cone"] []) (mgf : mg "box_of" = some (.ref f)) (T : Top mg) (h_box_points : Has P w K mg base "box_points" ["low", "high"] 1 (spR R_box_points)) (h_weights_of : Has P w K mg base "weights_of" ["vectors", "way"] 5 (spR R_weights_of)) (h_more : Has P w K mg base "more" ["one", "other"] 1 (spR R_more)) (h_is_kept : Has P w K mg base "is_kept" ["weight", "is_open"] 1 (spR R_is_kept)) :
    Has P w K mg base "box_of" ["cone"] 6 (spR R_box_of) := by
  have nd := sc_box_of.nd
  refine ⟨f, fd, fun_ok F sc_box_of (fun as d h => ?_) (fun cdv A outer s H E hr => ?_), mgf, F.kp, bd⟩
  · exact len_box_of h
  refine ⟨_, (pss_cons (ps_asg (pv 0) (pgk_tup K (by rfl) (pgs_cons (pg_name (i := 1) nd rfl (Or.inl rfl)) (pgs_cons (pg_name (i := 2) nd rfl (Or.inr rfl)) (pgs_cons (pg_name (i := 3) nd rfl (Or.inr rfl)) pgs_nil)))))
      (pss_cons (ps_par (i := 4) (j := 5) (by rfl) nd rfl rfl (by decide) rfl rfl (pa_cons (pe_callB (ck_len K) (by rfl) T.len bt_len (pa_cons (pv 1) pa_nil)) (pa_cons (pe_lst pa_nil) pa_nil)) (by rfl))
      (pss_cons (ps_setLc (i := 6) (own := [("axis", 8)]) (g := gName 8) (by rfl) nd rfl rfl (sw_true rfl rfl rfl (by decide +kernel)) (pi_range1 (by rfl) T.range (pa_cons (pv 4) pa_nil)) (blkOk_by (own := [("axis", 8)]) (by kernel_rfl)) (fun _ _ _ _ _ => (pg_name (i := 8) nd rfl (Or.inr rfl))) (fun _ _ _ _ _ => pts_nil) (fun _ _ _ _ _ => (pe_callB (ck_sum K (by rfl)) (by rfl) T.sum bt_sum (pa_cons (pe_lc (own := [("one", 7)]) (g := gName 7) (by rfl) nd (pik_tup K (pv 2)) (blkOk_by (own := [("one", 7)]) (by kernel_rfl)) (fun _ _ _ _ _ => (pg_name (i := 7) nd rfl (Or.inl rfl))) (fun _ _ _ _ _ => pts_nil) (fun _ _ _ _ _ => (pe_callB (call_min2 (by rfl)) (by rfl) T.min bt_min (pa_cons pe_int (pa_cons (pe_ix (ixk K) (pv 7) (pv 8) (fun _ _ => rfl)) pa_nil))))) pa_nil))))
      (pss_cons (ps_setLc (i := 9) (own := [("axis", 8)]) (g := gName 8) (by rfl) nd rfl rfl (sw_true rfl rfl rfl (by decide +kernel)) (pi_range1 (by rfl) T.range (pa_cons (pv 4) pa_nil)) (blkOk_by (own := [("axis", 8)]) (by kernel_rfl)) (fun _ _ _ _ _ => (pg_name (i := 8) nd rfl (Or.inr rfl))) (fun _ _ _ _ _ => pts_nil) (fun _ _ _ _ _ => (pe_callB (ck_sum K (by rfl)) (by rfl) T.sum bt_sum (pa_cons (pe_lc (own := [("one", 7)]) (g := gName 7) (by rfl) nd (pik_tup K (pv 2)) (blkOk_by (own := [("one", 7)]) (by kernel_rfl)) (fun _ _ _ _ _ => (pg_name (i := 7) nd rfl (Or.inl rfl))) (fun _ _ _ _ _ => pts_nil) (fun _ _ _ _ _ => (pe_callB (call_max2 (by rfl)) (by rfl) T.max bt_max (pa_cons pe_int (pa_cons (pe_ix (ixk K) (pv 7) (pv 8) (fun _ _ => rfl)) pa_nil))))) pa_nil))))
      (pss_cons (ps_for PassesOwn.never rfl (pik_list K (pe_callH h_box_points hr (by decide) (by rfl) (pa_cons (pv 6) (pa_cons (pv 9) pa_nil)))) (pg_name (i := 10) nd rfl (Or.inl rfl)) (pss_cons (ps_set (i := 11) nd rfl (Or.inr rfl) (pe_callH h_weights_of hr (by decide) (by rfl) (pa_cons (pv 2) (pa_cons (pv 10) pa_nil))))
      (pss_one (ps_if (pt_cmpR (opk_eq K (hu64 hr)) (pe_lc (own := [("k", 12)]) (g := gName 12) (by rfl) nd (pi_range1 (by rfl) T.range (pa_cons (pv 4) pa_nil)) (blkOk_by (own := [("k", 12)]) (by kernel_rfl)) (fun _ _ _ _ _ => (pg_name (i := 12) nd rfl (Or.inl rfl))) (fun _ _ _ _ _ => (pts_one (pt_not (pt_val (pe_callH h_is_kept hr (by decide) (by rfl) (pa_cons (pe_ix (ixk K) (pv 11) (pv 12) (fun _ _ => rfl)) (pa_cons (pe_cmpR (opk_in K) (pv 12) (pv 3) (by rfl)) pa_nil))))))) (fun _ _ _ _ _ => (pv 12))) (pe_lst pa_nil) (nomark _)) (pss_one (ps_expr (pe_bm PySem.F.plainAttrs_list PySem.F.slot_list_append PySem.F.type_list_append mt_append (pv 5) (pa_cons (pe_callH h_more hr (by decide) (by rfl) (pa_cons (pv 1) (pa_cons (pv 10) pa_nil))) pa_nil)))) pss_nil))))
      (pss_one (ps_ret (pe_callB (cr_sortedX w (by rfl)) (by rfl) T.sorted bt_sorted (pa_cons (pv 5) pa_nil))))))))), ?_⟩
  rintro m b σ H as d Q ⟨apex, vs, pl, rfl, C, rfl⟩ Ev q
  have n1 := C.n1
  have n3 := C.n3
  have al := C.al
  refine q_unp3 Ev (g_var rfl) fun σ1 H1 E1 => ?_
  refine q_parNew E1 (G.is (g_cb (ga_cons (g_var rfl) ga_nil) onk_lenT) (by rw [List.length_map, al])) fun p σ2 H2 np hb E2 => ?_
  -- low, high
  have glh : ∀ (r : List V → Hp → VK → Prop) (mm : Int → Int → Int), (∀ i j, ON r [.int i, .int j] (.int (mm i j))) → ∀ (M : Md) ds, ds[2]? = some (.im (.tup (vs.map tI))) → ds[4]? = some (.im (.int (vs.length : Int))) → ds.length = 13 →
      G M (tLc (iRng1 (tCons (tVar 4) tNil)) (gName 8) tYes (tCB (rSum K) (tCons (tLc (iTup K (tVar 2)) (gName 7) tYes (tCB r (tCons (tC (.int 0)) (tCons (tOp (rIx K) (tVar 7) (tVar 8)) tNil))) [7]) tNil)) [8]) ds
        (lI ((rg 0 vs.length).map fun a => (vs.map fun v => mm 0 (v.getD a.toNat 0)).sum)) := fun r mm hr M ds h2 h4 h13 => by
    have hset : ∀ (ds : List Ent) (i j : Nat) (x : Ent), i ≠ j → (ds.set i x)[j]? = ds[j]? := fun ds i j x h => List.getElem?_set_ne h
    refine G.is (g_lcA (zs := rg 0 vs.length) (e := D.int) (u := fun z ds => ds.set 8 (.im (.int z))) (fun a => D.int (vs.map fun v => mm 0 (v.getD a.toNat 0)).sum) ((gi_rng1 (ga_cons (g_var h4) ga_nil) (by omega)).is (by rw [Int.toNat_natCast])) (by rw [rg_len]; omega) (fun z _ => tg_name)
      (fun p acc z hz => g_cb (ga_cons (G.is (g_lcA (zs := vs) (e := tI) (u := fun v ds => ds.set 7 (.im (tI v))) (fun v => D.int (mm 0 (v.getD z.toNat 0))) (gi_tup (g_var ?_)) (by omega) (fun z _ => tg_name)
        (fun p2 acc2 v hv => g_cb (ga_cons g_int (ga_cons (g_op (g_var (d := tI v) ?_) (g_var (d := .int z) ?_) (o2_ixT (xs := v.map D.int) ?_ ?_)) ga_nil)) (hr _ _))) ?_) ga_nil) (on_sum (ns := vs.map fun v => mm 0 (v.getD z.toNat 0))))) ?_
    · show ((ds.set 8 .no).set 8 _)[2]? = _
      rw [hset _ _ _ _ (by decide), hset _ _ _ _ (by decide)]
      exact h2
    · show ((((ds.set 8 .no).set 8 _).set 7 .no).set 7 _)[7]? = _
      rw [List.getElem?_set_self (by simp [h13])]
    · show ((((ds.set 8 .no).set 8 _).set 7 .no).set 7 _)[8]? = _
      rw [hset _ _ _ _ (by decide), hset _ _ _ _ (by decide), List.getElem?_set_self (by simp [h13])]
    · obtain ⟨i, hi⟩ := List.getElem?_of_mem hz
      obtain ⟨hi1, rfl⟩ := rg_get hi
      omega
    · obtain ⟨i, hi⟩ := List.getElem?_of_mem hz
      obtain ⟨hi1, rfl⟩ := rg_get hi
      have hs := C.vl v hv
      have e : ((0 : Int) + (i : Int)).toNat = i := by omega
      rw [e, List.getElem?_map, List.getD_eq_getElem?_getD, List.getElem?_eq_getElem (by omega)] <;> rfl
    · show D.lst _ = D.lst _
      rw [List.map_map] <;> rfl
    · show D.lst _ = D.lst _
      rw [List.map_map] <;> rfl
  refine q_asg E2 (glh _ min (fun i j => on_min) _ _ rfl rfl rfl) fun σ3 H3 E3 => ?_
  refine q_asg E3 (glh _ max (fun i j => on_max) _ _ rfl rfl rfl) fun σ4 H4 E4 => ?_
  refine q_forO (i0 := 10) (zs := bxs vs) (e := tI) (u := fun z ds => ds.set 10 (.im (tI z))) E4 (gi_list (g_call (ga_cons (g_var rfl) (ga_cons (g_var rfl) ga_nil))
      ⟨lows vs, highs vs, rfl, by rw [lows_len, highs_len], by rw [lows_len]; omega, fun x hx => by have := lows_mem C x hx; omega, fun x hx => by have := highs_mem C x hx; omega, lh_mem C, rfl⟩)) (fun z _ => tg_name)
    (fun i ds' ys' => ys' = ((((bxs vs).take i).filter (kept vs pl)).map (shift apex)).map tI ∧ ∃ e6 e7 e8 e9 e10 e11 e12, ds' = [.im (coneD apex vs pl), .im (tI apex), .im (.tup (vs.map tI)), .im (tI pl), .im (.int (vs.length : Int)), .raw (.ref p), e6, e7, e8, e9, e10, e11, e12]) ⟨rfl, _, _, _, _, _, _, _, rfl⟩ ?_ ?_
  · rintro bb k z ds' ys' σ' H' N hz ⟨rfl, e6, e7, e8, e9, e10, e11, e12, rfl⟩ E' hN
    have hzm : z ∈ bxs vs := List.mem_of_getElem? hz
    have hzl := bxs_len hzm
    have hzb := bxs_mem C hzm
    have hcnt := bxs_count C
    have hk : k < (bxs vs).length := (List.getElem?_eq_some_iff.mp hz).1
    refine q_asg E' (g_call (ga_cons (g_var rfl) (ga_cons (g_var rfl) ga_nil)) ⟨vs, z, rfl, C.sq, n1, hzl, fun x hx => by have := hzb x hx; omega, C.dc.1, C.dc.2, rfl⟩) fun σ5 H5 E5 => ?_
    have hfil : ∀ n : Nat, n = vs.length → decide (((rg 0 n).filter fun k => !(isK (wt (cols vs) z k.toNat) (decide (k ∈ pl)))) = []) = kept vs pl z := fun n hn => by
      unfold kept
      rw [← hn, Bool.eq_iff_iff, decide_eq_true_eq, List.filter_eq_nil_iff, List.all_eq_true]
      constructor
      · intro h k hk
        have := h (0 + (k : Int)) (by
          unfold rg
          exact List.mem_map.mpr ⟨k, hk, rfl⟩)
        simpa using this
      · intro h k hk
        obtain ⟨j, hj, rfl⟩ := List.mem_map.mp hk
        have := h j hj
        simpa using this
    have htk : ((((bxs vs).take (k + 1)).filter (kept vs pl)).map (shift apex)).map tI = ((((bxs vs).take k).filter (kept vs pl)).map (shift apex)).map tI ++ (if kept vs pl z = true then [tI (shift apex z)] else []) := by
      rw [List.take_add_one, hz, List.filter_append]
      show ((List.map (shift apex) (_ ++ [z].filter (kept vs pl)))).map tI = _
      by_cases hkz : kept vs pl z = true
      · rw [if_pos hkz, List.filter_cons_of_pos hkz, List.map_append, List.map_append] <;> rfl
      · rw [if_neg hkz, List.filter_cons_of_neg hkz, List.map_append, List.map_append] <;> rfl
    refine s_whenL E5 (GT.is (gt_test (g_op (g_lc (zs := rg 0 vs.length) (e := D.int) (u := fun z ds => ds.set 12 (.im (.int z))) (fun k => !(isK (wt (cols vs) z k.toNat) (decide (k ∈ pl)))) D.int ((gi_rng1 (ga_cons (g_var rfl) ga_nil) (by omega)).is (by rw [Int.toNat_natCast])) (by rw [rg_len]; omega) (fun z _ => tg_name)
      (fun p acc j hj => gt_not (gt_B (g_call (ga_cons (g_op (g_var rfl) (g_var rfl) (o2_ixT (d := wD (wt (cols vs) z j.toNat)) ?_ ?_)) (ga_cons (g_op (g_var rfl) (g_var rfl) o2_in) ga_nil)) ⟨_, _, _, rfl, rfl⟩))) (fun p acc j hj _ => g_var rfl)) (g_lst ga_nil (by simp)) (o2_eqL (ys := [])))) (hfil _ rfl)) (fun hc H6 E6 => ?_) (fun hc H6 E6 => ?_)
    · obtain ⟨i, hi⟩ := List.getElem?_of_mem hj
      obtain ⟨hi1, rfl⟩ := rg_get hi
      omega
    · obtain ⟨i, hi⟩ := List.getElem?_of_mem hj
      obtain ⟨hi1, rfl⟩ := rg_get hi
      have e : ((0 : Int) + (i : Int)).toNat = i := by omega
      rw [e, List.getElem?_map, List.getElem?_range hi1] <;> rfl
    · refine s_app E6 rfl ?_ (g_call (ga_cons (g_var rfl) (ga_cons (g_var rfl) ga_nil)) ⟨apex, z, rfl, by omega, rfl⟩) fun H7 E7 => hN _ _ _ H7 ⟨?_, _, _, _, _, _, _, _, rfl⟩ E7
      · rw [List.length_map, List.length_map]
        have := List.length_filter_le (kept vs pl) ((bxs vs).take k)
        rw [List.length_take] at this
        omega
      · rw [htk, if_pos hc] <;> rfl
    · refine hN _ _ _ H6 ⟨?_, _, _, _, _, _, _, _, rfl⟩ E6
      rw [htk, if_neg (by rw [hc]; decide), List.append_nil]
  · rintro ds' ys' σ' H' ⟨rfl, e6, e7, e8, e9, e10, e11, e12, rfl⟩ E'
    rw [List.take_length] at E'
    exact s_ret (E'.done (i := 5) np hb rfl) (g_cb (ga_cons (g_var rfl) ga_nil) (on_sort n1 (boxF_len al (kept vs pl)) (boxF_pw al (kept vs pl)))) q

def R_cone_box (as : List D) (d : D) : Prop := ∃ apex vs pl, as = [coneD apex vs pl] ∧ ConeOk apex vs pl ∧ d = .tup ((boxOf apex vs pl).map tI)
theorem len_cone_box {as : List D} {d : D} (h : R_cone_box as d) : as.length = 1 := by
  obtain ⟨x, y, z, rfl, _⟩ := h
  rfl
abbrev s_cone_box : Stmt := topS 22
theorem sc_cone_box : FnScope ["cone"] ["cone"] (defScope s_cone_box) := ⟨rfl, rfl, rfl, by decide +kernel, rfl, by decide +kernel, by decide +kernel⟩
-- slots: 0 cone
theorem ok_cone_box {f : Addr} {fd : FuncData} (F : Fun K "cone_box" "cone_box" s_cone_box f fd) (bd : Binds K fd ["cone"] []) (mgf : mg "cone_box" = some (.ref f)) (T : Top mg) (h_need_cone : Has P w K mg base "need_cone" ["cone"] 4 (spR R_need_cone)) (h_box_of : Has P w K mg base "box_of" ["cone"] 6 (spR R_box_of)) :
    Has P w K mg base "cone_box" ["cone"] 7 (spR R_cone_box) := by
  have nd := sc_cone_box.nd
  refine ⟨f, fd, fun_ok F sc_cone_box (fun as d h => ?_) (fun cdv A outer s H E hr => ?_), mgf, F.kp, bd⟩
  · exact len_cone_box h
  refine ⟨_, (pss_cons (ps_expr (pe_callH h_need_cone hr (by decide) (by rfl) (pa_cons (pv 0) pa_nil)))
      (pss_one (ps_ret (pe_callTy (ck_tuple K) (by rfl) T.tuple bt_tuple (pa_cons (pe_callH h_box_of hr (by decide) (by rfl) (pa_cons (pv 0) pa_nil)) pa_nil))))), ?_⟩
  rintro m b σ H as d Q ⟨apex, vs, pl, rfl, C, rfl⟩ Ev q
  refine q_drop Ev (g_call (ga_cons (g_var rfl) ga_nil) ⟨apex, vs, pl, rfl, C, rfl⟩) fun H2 E2 => ?_
  exact s_ret E2 (g_cb (ga_cons (g_call (ga_cons (g_var rfl) ga_nil) ⟨apex, vs, pl, rfl, C, rfl⟩) ga_nil) onk_tupL) q
end
end Lk
set_option Elab.async false
set_option linter.all false
set_option maxRecDepth 100000
set_option maxHeartbeats 4000000
namespace Lk
open PySem PySem.Spec PyProof.Rows L2 RZ
open Evl (Ex)
section
variable {P : Program} {w : World} {K : PySem.W.Frag} {mg : Str → Option Value} {base : Heap}
/-! _law_subsets, _law_minors, _law_mix -/
def subStep (size : Nat) (found : List (List Int)) (k : Int) : List (List Int) := found ++ (found.filter fun lot => decide ((lot.length : Int) < (size : Int))).map fun lot => lot ++ [k]
def subF (size : Nat) (ks : List Int) : List (List Int) := ks.foldl (subStep size) [[]]
def subs (many size : Nat) : List (List Int) := (subF size (rg 0 many)).filter fun lot => ((lot.length : Int) == (size : Int))
theorem subF_len {many size i : Nat} (h1 : many ≤ 3) (h2 : size ≤ 3) : (subF size ((rg 0 many).take i)).length ≤ 8 ∧ ∀ l ∈ subF size ((rg 0 many).take i), l.length ≤ 3 := by
  have h : ∀ many ∈ [0, 1, 2, 3], ∀ size ∈ [0, 1, 2, 3], ∀ i ∈ [0, 1, 2, 3], (subF size ((rg 0 many).take i)).length ≤ 8 ∧ ∀ l ∈ subF size ((rg 0 many).take i), l.length ≤ 3 := by decide +kernel
  by_cases hi : i ≤ 3
  · exact h many (by simp; omega) size (by simp; omega) i (by simp; omega)
  · have e : (rg 0 many).take i = (rg 0 many).take 3 := by rw [List.take_of_length_le (by rw [rg_len]; omega), List.take_of_length_le (by rw [rg_len]; omega)]
    rw [e]
    exact h many (by simp; omega) size (by simp; omega) 3 (by simp)
theorem subs_pw {many size : Nat} (h1 : many ≤ 3) (h2 : size ≤ 3) : (subs many size).Pairwise fun x y => ltL y x = false := by
  have h : ∀ many ∈ [0, 1, 2, 3], ∀ size ∈ [0, 1, 2, 3], (subs many size).Pairwise fun x y => ltL y x = false := by decide +kernel
  exact h many (by simp; omega) size (by simp; omega)
theorem subs_mem {many size : Nat} {l : List Int} (h : l ∈ subs many size) : l.length = size := by
  have := (List.mem_filter.mp h).2
  have h2 : (l.length : Int) = (size : Int) := by simpa using this
  omega
def R_law_subsets (as : List D) (d : D) : Prop := ∃ many size : Nat, as = [.int many, .int size] ∧ 1 ≤ size ∧ size ≤ 3 ∧ many ≤ 3 ∧ d = .lst ((subs many size).map tI)
theorem len_law_subsets {as : List D} {d : D} (h : R_law_subsets as d) : as.length = 2 := by
  obtain ⟨x, y, rfl, _⟩ := h
  rfl
abbrev s_law_subsets : Stmt := topS 27
theorem sc_law_subsets : FnScope ["_law_many", "_law_size", "_law_found", "_law_k", "_law_lot"] ["_law_many", "_law_size"] (defScope s_law_subsets) := ⟨rfl, rfl, rfl, by decide +kernel, rfl, by decide +kernel, by decide +kernel⟩
-- slots: 0 _law_many, 1 _law_size*, 2 _law_found, 3 _law_k*, 4 _law_lot
theorem ok_law_subsets {f : Addr} {fd : FuncData} (F : Fun K "_law_subsets" "_law_subsets" s_law_subsets f fd) (bd : Binds K fd ["_law_many", "_law_size"] []) (mgf : mg "_law_subsets" = some (.ref f)) (T : Top mg)  :
    Has P w K mg base "_law_subsets" ["_law_many", "_law_size"] 1 (spR R_law_subsets) := by
  have nd := sc_law_subsets.nd
  refine ⟨f, fd, fun_ok F sc_law_subsets (fun as d h => ?_) (fun cdv A outer s H E hr => ?_), mgf, F.kp, bd⟩
  · exact len_law_subsets h
  refine ⟨_, (pss_cons (ps_set (i := 2) nd rfl (Or.inl rfl) (pe_lst (pa_cons (pe_tup pa_nil) pa_nil)))
      (pss_cons (ps_for PassesOwn.never rfl (pi_range1 (by rfl) T.range (pa_cons (pv 0) pa_nil)) (pg_name (i := 3) nd rfl (Or.inr rfl)) (pss_one (ps_set (i := 2) nd rfl (Or.inl rfl) (pe_op (opk_plus K) (pv 2) (pe_lc (own := [("_law_lot", 4)]) (g := gName 4) (by rfl) nd (pik_list K (pv 2)) (blkOk_by (own := [("_law_lot", 4)]) (by kernel_rfl)) (fun _ _ _ _ _ => (pg_name (i := 4) nd rfl (Or.inl rfl))) (fun _ _ _ _ _ => (pts_one (pt_cmpR op_lt (pe_callB (ck_len K) (by rfl) T.len bt_len (pa_cons (pv 4) pa_nil)) (pv 1) (nomark _)))) (fun _ _ _ _ _ => (pe_op (opk_plus K) (pv 4) (pe_tup (pa_cons (pv 3) pa_nil)))))))))
      (pss_one (ps_ret (pe_callB (cr_sortedX w (by rfl)) (by rfl) T.sorted bt_sorted (pa_cons (pe_lc (own := [("_law_lot", 4)]) (g := gName 4) (by rfl) nd (pik_list K (pv 2)) (blkOk_by (own := [("_law_lot", 4)]) (by kernel_rfl)) (fun _ _ _ _ _ => (pg_name (i := 4) nd rfl (Or.inl rfl))) (fun _ _ _ _ _ => (pts_one (pt_cmpR (opk_eq K (hu64 hr)) (pe_callB (ck_len K) (by rfl) T.len bt_len (pa_cons (pv 4) pa_nil)) (pv 1) (nomark _)))) (fun _ _ _ _ _ => (pv 4))) pa_nil)))))), ?_⟩
  rintro m b σ H as d Q ⟨many, size, rfl, h1, h2, h3, rfl⟩ Ev q
  refine q_asg Ev (g_lst (as := [.tup []]) (ga_cons (g_tup ga_nil (by simp)) ga_nil) (by simp)) fun σ1 H1 E1 => ?_
  have hb := fun i => subF_len (i := i) h3 h2
  have glt : ∀ (M : Md) (ds : List Ent) (z : List Int), ds[1]? = some (.im (.int (size : Int))) → ds[4]? = some (.im (tI z)) → G M (tCB (rLen K) (tCons (tVar 4) tNil)) ds (.int (z.length : Int)) := fun M ds z _ h4 => G.is (g_cb (ga_cons (g_var h4) ga_nil) onk_lenT) (by rw [List.length_map])
  refine q_for (i0 := 3) (zs := rg 0 many) (e := D.int) (u := fun z ds => ds.set 3 (.im (.int z))) E1 ((gi_rng1 (ga_cons (g_var rfl) ga_nil) (by omega)).is (by rw [Int.toNat_natCast])) (fun z _ => tg_name)
    (fun i ds' => ∃ e3 e4, ds' = [.im (.int many), .im (.int size), .im (.lst ((subF size ((rg 0 many).take i)).map tI)), e3, e4]) ⟨_, _, rfl⟩ ?_ ?_
  · rintro bb k z ds' σ' H' N hz ⟨e3, e4, rfl⟩ E' hN
    have hl := (hb k).1
    refine s_asg E' (g_op (g_var rfl) (g_lc (zs := subF size ((rg 0 many).take k)) (e := tI) (u := fun z ds => ds.set 4 (.im (tI z))) (fun lot => decide ((lot.length : Int) < (size : Int))) (fun lot => tI (lot ++ [z])) (gi_list (g_var rfl)) (by omega) (fun z _ => tg_name)
      (fun p acc l hl => gt_test (g_op (glt _ _ l rfl rfl) (g_var rfl) o2_lt)) (fun p acc l hl _ => G.is (g_op (g_var rfl) (g_tup (ga_cons (g_var rfl) ga_nil) (by simp)) (o2_addT ?_)) ?_)) (o2_addL ?_)) fun σ2 H2 E2 => hN _ σ2 H2 ?_ E2
    · have := (hb k).2 l hl
      rw [List.length_map, List.length_singleton]
      omega
    · show D.tup _ = D.tup _
      rw [List.map_append] <;> rfl
    · rw [List.length_map, List.length_map]
      have := List.length_filter_le (fun lot : List Int => decide ((lot.length : Int) < (size : Int))) (subF size ((rg 0 many).take k))
      omega
    · have e1 : (subF size ((rg 0 many).take (k + 1))).map tI = (subF size ((rg 0 many).take k)).map tI ++ ((subF size ((rg 0 many).take k)).filter fun lot => decide ((lot.length : Int) < (size : Int))).map fun lot => tI (lot ++ [z]) := by
        rw [List.take_add_one, hz]
        show (subF size ((rg 0 many).take k ++ [z])).map tI = _
        unfold subF
        rw [List.foldl_append]
        show (subStep size _ z).map tI = _
        unfold subStep
        rw [List.map_append, List.map_map] <;> rfl
      rw [e1]
      exact ⟨_, _, rfl⟩
  · rintro ds' σ' H' ⟨e3, e4, rfl⟩ E'
    rw [List.take_length] at E'
    have hl := (hb many).1
    rw [List.take_of_length_le (by rw [rg_len]; omega)] at hl
    refine s_ret E' (g_cb (ga_cons (G.is (g_lc (zs := subF size (rg 0 many)) (e := tI) (u := fun z ds => ds.set 4 (.im (tI z))) (fun lot => ((lot.length : Int) == (size : Int))) tI (gi_list (g_var rfl)) (by omega) (fun z _ => tg_name)
      (fun p acc l hl => gt_test (g_op (glt _ _ l rfl rfl) (g_var rfl) o2_eqI)) (fun p acc l hl _ => g_var rfl)) rfl) ga_nil) (on_sort (d := size) h1 (fun l hl => subs_mem hl) (subs_pw h3 h2))) q

def pickM (rows : List (List Int)) (lot columns : List Int) : List (List Int) := lot.map fun j => columns.map fun k => (rows.getD j.toNat []).getD k.toNat 0
def minIn (rows : List (List Int)) (n size : Nat) (c : Nat) (lot : List Int) : Nat := (subs n size).foldl (fun c col => Int.gcd (c : Int) (det (pickM rows lot col))) c
def minors (rows : List (List Int)) (n : Nat) : Nat := (subs rows.length rows.length).foldl (minIn rows n rows.length) 0
def R_law_minors (as : List D) (d : D) : Prop := ∃ (rows : List (List Int)) (n : Nat), as = [.lst (rows.map lI), .int (rows.length : Int)] ∧ 1 ≤ rows.length ∧ rows.length ≤ n ∧ n ≤ 3 ∧ (∀ r ∈ rows, r.length = n ∧ ∀ x ∈ r, x.natAbs ≤ 1000) ∧ d = .int (minors rows n : Nat)
theorem len_law_minors {as : List D} {d : D} (h : R_law_minors as d) : as.length = 2 := by
  obtain ⟨x, y, rfl, _⟩ := h
  rfl
theorem subs_in {many size : Nat} {l : List Int} (h3 : many ≤ 3) (h2 : size ≤ 3) (h : l ∈ subs many size) : ∀ j ∈ l, 0 ≤ j ∧ j < (many : Int) := by
  have hh : ∀ many ∈ [0, 1, 2, 3], ∀ size ∈ [0, 1, 2, 3], ∀ l ∈ subs many size, ∀ j ∈ l, 0 ≤ j ∧ j < (many : Int) := by decide +kernel
  exact hh many (by simp; omega) size (by simp; omega) l h
theorem subs_len {many size : Nat} (h3 : many ≤ 3) (h2 : size ≤ 3) : (subs many size).length ≤ 8 := by
  have hh : ∀ many ∈ [0, 1, 2, 3], ∀ size ∈ [0, 1, 2, 3], (subs many size).length ≤ 8 := by decide +kernel
  exact hh many (by simp; omega) size (by simp; omega)
theorem getD_mem {α : Type} {l : List α} {k : Nat} {d : α} (h : k < l.length) : l.getD k d ∈ l := by
  rw [List.getD_eq_getElem?_getD, List.getElem?_eq_getElem h]
  exact List.getElem_mem h
theorem getD_get {α : Type} {l : List α} {k : Nat} {d : α} (h : k < l.length) : l[k]? = some (l.getD k d) := by
  rw [List.getD_eq_getElem?_getD, List.getElem?_eq_getElem h] <;> rfl
theorem sq_pick {rows : List (List Int)} {n : Nat} {lot col : List Int} (hs : rows.length ≤ 3) (hn : n ≤ 3) (hr : ∀ r ∈ rows, r.length = n ∧ ∀ x ∈ r, x.natAbs ≤ 1000) (h1 : lot ∈ subs rows.length rows.length) (h2 : col ∈ subs n rows.length) : Sq (pickM rows lot col) ∧ (pickM rows lot col).length = rows.length := by
  have e : (pickM rows lot col).length = rows.length := by
    unfold pickM
    rw [List.length_map, subs_mem h1]
  refine ⟨⟨by omega, fun r hr' => ?_⟩, e⟩
  rw [e]
  obtain ⟨j, hj, rfl⟩ := List.mem_map.mp hr'
  refine ⟨by rw [List.length_map, subs_mem h2], fun x hx => ?_⟩
  obtain ⟨k, hk, rfl⟩ := List.mem_map.mp hx
  have hj' := subs_in hs hs h1 j hj
  have hk' := subs_in hn hs h2 k hk
  have hm := hr _ (getD_mem (l := rows) (k := j.toNat) (d := []) (by omega))
  exact hm.2 _ (getD_mem (by omega))
def R_law_determinant := R_ldet 4
abbrev s_law_minors : Stmt := topS 29
theorem sc_law_minors : FnScope ["_law_rows", "_law_size", "_law_common", "_law_lot", "_law_columns", "_law_k", "_law_j"] ["_law_rows", "_law_size"] (defScope s_law_minors) := ⟨rfl, rfl, rfl, by decide +kernel, rfl, by decide +kernel, by decide +kernel⟩
-- slots: 0 _law_rows*, 1 _law_size, 2 _law_common, 3 _law_lot, 4 _law_columns*, 5 _law_k, 6 _law_j
theorem ok_law_minors {f : Addr} {fd : FuncData} (F : Fun K "_law_minors" "_law_minors" s_law_minors f fd) (bd : Binds K fd ["_law_rows", "_law_size"] []) (mgf : mg "_law_minors" = some (.ref f)) (T : Top mg) (h_law_subsets : Has P w K mg base "_law_subsets" ["_law_many", "_law_size"] 1 (spR R_law_subsets)) (h_law_gcd : Has P w K mg base "_law_gcd" ["_law_one", "_law_other"] 1 (spR R_law_gcd)) (h_law_determinant : Has P w K mg base "_law_determinant" ["_law_rows"] 4 (spR R_law_determinant)) :
    Has P w K mg base "_law_minors" ["_law_rows", "_law_size"] 5 (spR R_law_minors) := by
  have nd := sc_law_minors.nd
  refine ⟨f, fd, fun_ok F sc_law_minors (fun as d h => ?_) (fun cdv A outer s H E hr => ?_), mgf, F.kp, bd⟩
  · exact len_law_minors h
  refine ⟨_, (pss_cons (ps_set (i := 2) nd rfl (Or.inl rfl) pe_int)
      (pss_cons (ps_for PassesOwn.never rfl (pik_list K (pe_callH h_law_subsets hr (by decide) (by rfl) (pa_cons (pe_callB (ck_len K) (by rfl) T.len bt_len (pa_cons (pv 0) pa_nil)) (pa_cons (pv 1) pa_nil)))) (pg_name (i := 3) nd rfl (Or.inl rfl)) (pss_one (ps_for PassesOwn.never rfl (pik_list K (pe_callH h_law_subsets hr (by decide) (by rfl) (pa_cons (pe_callB (ck_len K) (by rfl) T.len bt_len (pa_cons (pe_ix (ixk K) (pv 0) pe_int (fun _ _ => rfl)) pa_nil)) (pa_cons (pv 1) pa_nil)))) (pg_name (i := 4) nd rfl (Or.inr rfl)) (pss_one (ps_set (i := 2) nd rfl (Or.inl rfl) (pe_callH h_law_gcd hr (by decide) (by rfl) (pa_cons (pv 2) (pa_cons (pe_callH h_law_determinant hr (by decide) (by rfl) (pa_cons (pe_lc (own := [("_law_j", 6)]) (g := gName 6) (by rfl) nd (pik_tup K (pv 3)) (blkOk_by (own := [("_law_j", 6)]) (by kernel_rfl)) (fun _ _ _ _ _ => (pg_name (i := 6) nd rfl (Or.inr rfl))) (fun _ _ _ _ _ => pts_nil) (fun _ _ _ _ _ => (pe_lc (own := [("_law_k", 5)]) (g := gName 5) (by rfl) nd (pik_tup K (pv 4)) (blkOk_by (own := [("_law_k", 5)]) (by kernel_rfl)) (fun _ _ _ _ _ => (pg_name (i := 5) nd rfl (Or.inl rfl))) (fun _ _ _ _ _ => pts_nil) (fun _ _ _ _ _ => (pe_ix (ixk K) (pe_ix (ixk K) (pv 0) (pv 6) (fun _ _ => rfl)) (pv 5) (fun _ _ => rfl)))))) pa_nil)) pa_nil))))))))
      (pss_one (ps_ret (pv 2))))), ?_⟩
  rintro m b σ H as d Q ⟨rows, n, rfl, h1, h2, h3, hr, rfl⟩ Ev q
  refine q_asg Ev g_int fun σ1 H1 E1 => ?_
  have hlen : ∀ (M : Md) ds, ds[0]? = some (.im (.lst (rows.map lI))) → G M (tCB (rLen K) (tCons (tVar 0) tNil)) ds (.int (rows.length : Int)) := fun M ds h0 => G.is (g_cb (ga_cons (g_var h0) ga_nil) onk_lenL) (by rw [List.length_map])
  have hr0 := hr _ (getD_mem (l := rows) (k := 0) (d := []) (by omega))
  have g0 : rows[0]? = some (rows.getD 0 []) := getD_get (by omega)
  have gdet : ∀ (M : Md) (ds : List Ent) (lot col : List Int), lot ∈ subs rows.length rows.length → col ∈ subs n rows.length → ds[0]? = some (.im (.lst (rows.map lI))) → ds[3]? = some (.im (tI lot)) → ds[4]? = some (.im (tI col)) → ds.length = 7 →
      G M (tCall (spR R_law_determinant) [] E0 (tCons (tLc (iTup K (tVar 3)) (gName 6) tYes (tLc (iTup K (tVar 4)) (gName 5) tYes (tOp (rIx K) (tOp (rIx K) (tVar 0) (tVar 6)) (tVar 5)) [5]) [6]) tNil)) ds (.int (det (pickM rows lot col))) := fun M ds lot col hl hc d0 d3 d4 d7 => by
    have hset : ∀ (ds : List Ent) (i j : Nat) (x : Ent), i ≠ j → (ds.set i x)[j]? = ds[j]? := fun ds i j x h => List.getElem?_set_ne h
    have hp := sq_pick (by omega) h3 hr hl hc
    refine g_call (ga_cons (g_lcA (zs := lot) (e := D.int) (u := fun z ds => ds.set 6 (.im (.int z))) (fun j => lI (col.map fun k => (rows.getD j.toNat []).getD k.toNat 0)) (gi_tup (g_var d3)) (by have := subs_mem hl; omega) (fun z _ => tg_name)
      (fun p acc j hj => G.is (g_lcA (zs := col) (e := D.int) (u := fun z ds => ds.set 5 (.im (.int z))) (fun k => D.int ((rows.getD j.toNat []).getD k.toNat 0)) (gi_tup (g_var ?_)) (by have := subs_mem hc; omega) (fun z _ => tg_name)
        (fun p2 acc2 k hk => g_op (g_op (g_var (d := .lst (rows.map lI)) ?_) (g_var (d := .int j) ?_) (o2_ixL (d := lI (rows.getD j.toNat [])) ?_ ?_)) (g_var (d := .int k) ?_) (o2_ixL ?_ ?_))) ?_)) ga_nil) ⟨pickM rows lot col, ?_, hp.1, by omega, rfl⟩
    · show ((ds.set 6 .no).set 6 _)[4]? = _
      rw [hset _ _ _ _ (by decide), hset _ _ _ _ (by decide)]
      exact d4
    · show ((((ds.set 6 .no).set 6 _).set 5 .no).set 5 _)[0]? = _
      rw [hset _ _ _ _ (by decide), hset _ _ _ _ (by decide), hset _ _ _ _ (by decide), hset _ _ _ _ (by decide)]
      exact d0
    · show ((((ds.set 6 .no).set 6 _).set 5 .no).set 5 _)[6]? = _
      rw [hset _ _ _ _ (by decide), hset _ _ _ _ (by decide), List.getElem?_set_self (by simp [d7])]
    · exact (subs_in (by omega) (by omega) hl j hj).1
    · have hj' := subs_in (by omega) (by omega) hl j hj
      rw [List.getElem?_map, getD_get (l := rows) (k := j.toNat) (d := []) (by omega)] <;> rfl
    · show ((((ds.set 6 .no).set 6 _).set 5 .no).set 5 _)[5]? = _
      rw [List.getElem?_set_self (by simp [d7])]
    · exact (subs_in h3 (by omega) hc k hk).1
    · have hj' := subs_in (by omega) (by omega) hl j hj
      have hk' := subs_in h3 (by omega) hc k hk
      have hm := hr _ (getD_mem (l := rows) (k := j.toNat) (d := []) (by omega))
      rw [List.getElem?_map, getD_get (l := rows.getD j.toNat []) (k := k.toNat) (d := 0) (by omega)] <;> rfl
    · show D.lst _ = D.lst _
      rw [List.map_map] <;> rfl
    · show [D.lst _] = [D.lst _]
      unfold pickM
      rw [List.map_map] <;> rfl
  refine q_for (i0 := 3) (zs := subs rows.length rows.length) (e := tI) (u := fun z ds => ds.set 3 (.im (tI z))) E1 (gi_list (g_call (ga_cons (hlen _ _ rfl) (ga_cons (g_var rfl) ga_nil)) ⟨rows.length, rows.length, rfl, h1, by omega, by omega, rfl⟩)) (fun z _ => tg_name)
    (fun i ds' => ∃ e3 e4 e5 e6, ds' = [.im (.lst (rows.map lI)), .im (.int (rows.length : Int)), .im (.int (((subs rows.length rows.length).take i).foldl (minIn rows n rows.length) 0 : Nat)), e3, e4, e5, e6]) ⟨_, _, _, _, rfl⟩ ?_ ?_
  · rintro bb i lot ds' σ' H' N hz ⟨e3, e4, e5, e6, rfl⟩ E' hN
    have hlm := List.mem_of_getElem? hz
    refine s_for (i0 := 4) (zs := subs n rows.length) (e := tI) (u := fun z ds => ds.set 4 (.im (tI z))) E' (gi_list (g_call (ga_cons (g_cb (ga_cons (g_op (g_var rfl) g_int (o2_ixL (d := lI (rows.getD 0 [])) (by decide) (by rw [List.getElem?_map]; show Option.map lI rows[0]? = _; rw [g0] <;> rfl))) ga_nil) onk_lenL) (ga_cons (g_var rfl) ga_nil)) ⟨n, rows.length, by rw [List.length_map, hr0.1], h1, by omega, h3, rfl⟩)) (fun z _ => tg_name)
      (fun k ds' => ∃ e4 e5 e6, ds' = [.im (.lst (rows.map lI)), .im (.int (rows.length : Int)), .im (.int (((subs n rows.length).take k).foldl (fun c col => Int.gcd (c : Int) (det (pickM rows lot col))) (((subs rows.length rows.length).take i).foldl (minIn rows n rows.length) 0) : Nat)), .im (tI lot), e4, e5, e6]) ⟨_, _, _, rfl⟩ ?_ ?_
    · rintro b2 k col ds2 σ2 H2 N2 hz2 ⟨e4, e5, e6, rfl⟩ E2 hN2
      refine s_asg E2 (g_call (ga_cons (g_var rfl) (ga_cons (gdet _ _ lot col hlm (List.mem_of_getElem? hz2) rfl rfl rfl rfl) ga_nil)) ⟨_, _, rfl, rfl⟩) fun σ3 H3 E3 => hN2 _ σ3 H3 ?_ E3
      rw [List.take_add_one, hz2, List.foldl_append]
      exact ⟨_, _, _, rfl⟩
    · rintro ds2 σ2 H2 ⟨e4, e5, e6, rfl⟩ E2
      refine hN _ σ2 H2 ?_ E2
      rw [List.take_length, List.take_add_one, hz, List.foldl_append]
      exact ⟨_, _, _, _, rfl⟩
  · rintro ds' σ' H' ⟨e3, e4, e5, e6, rfl⟩ E'
    refine s_ret E' (G.is (g_var rfl) ?_) q
    rw [List.take_length] <;> rfl
end
end Lk
set_option Elab.async false
set_option linter.all false
set_option maxRecDepth 100000
set_option maxHeartbeats 4000000
namespace Lk
open PySem PySem.Spec PyProof.Rows L2 RZ
open Evl (Ex)
section
variable {P : Program} {w : World} {K : PySem.W.Frag} {mg : Str → Option Value} {base : Heap}
/-! _law_mix, _law_cone_box -/
def mixW (vs : List (List Int)) : Int := if 0 < det (cols vs) then det (cols vs) else 0 - det (cols vs)
def mixK (vs : List (List Int)) (way : List Int) (k : Nat) : Int := if 0 < det (cols vs) then det (chg (cols vs) way k) else 0 - det (chg (cols vs) way k)
def R_law_mix (as : List D) (d : D) : Prop := ∃ (vs : List (List Int)) (way : List Int), as = [.tup (vs.map tI), tI way] ∧ Sq vs ∧ 1 ≤ vs.length ∧ way.length = vs.length ∧ (∀ x ∈ way, x.natAbs ≤ 1000) ∧ d = .tup [.int (mixW vs), lI ((List.range vs.length).map (mixK vs way))]
theorem len_law_mix {as : List D} {d : D} (h : R_law_mix as d) : as.length = 2 := by
  obtain ⟨x, y, rfl, _⟩ := h
  rfl
theorem chg_rg {vs : List (List Int)} {way : List Int} {n k : Nat} (h1 : vs.length = n) (h2 : way.length = n) : (rg 0 n).map (fun j => lI ((vs.getD j.toNat []).take k ++ [way.getD j.toNat 0] ++ (vs.getD j.toNat []).drop (k + 1))) = (chg vs way k).map lI := by
  apply List.ext_getElem?
  intro i
  unfold chg rg
  rw [List.map_map, List.map_zipWith, List.getElem?_map, List.getElem?_zipWith]
  by_cases hi : i < n
  · rw [List.getElem?_range hi, getD_get (l := vs) (k := i) (d := []) (by omega), getD_get (l := way) (k := i) (d := 0) (by omega)]
    show some (lI ((vs.getD ((0 : Int) + (i : Int)).toNat []).take k ++ [way.getD ((0 : Int) + (i : Int)).toNat 0] ++ (vs.getD ((0 : Int) + (i : Int)).toNat []).drop (k + 1))) = _
    rw [show ((0 : Int) + (i : Int)).toNat = i by omega]
  · rw [List.getElem?_eq_none (by rw [List.length_range]; omega), List.getElem?_eq_none (by omega)] <;> rfl
abbrev s_law_mix : Stmt := topS 32
theorem sc_law_mix : FnScope ["_law_vectors", "_law_way", "_law_size", "_law_found", "_law_rows", "_law_one", "_law_axis", "_law_whole", "_law_k", "_law_j", "_law_x"] ["_law_vectors", "_law_way"] (defScope s_law_mix) := ⟨rfl, rfl, rfl, by decide +kernel, rfl, by decide +kernel, by decide +kernel⟩
-- slots: 0 _law_vectors*, 1 _law_way*, 2 _law_size, 3 _law_found, 4 _law_rows*, 5 _law_one, 6 _law_axis, 7 _law_whole, 8 _law_k*, 9 _law_j, 10 _law_x
theorem ok_law_mix {f : Addr} {fd : FuncData} (F : Fun K "_law_mix" "_law_mix" s_law_mix f fd) (bd : Binds K fd ["_law_vectors", "_law_way"] []) (mgf : mg "_law_mix" = some (.ref f)) (T : Top mg) (h_law_determinant : Has P w K mg base "_law_determinant" ["_law_rows"] 4 (spR R_law_determinant)) :
    Has P w K mg base "_law_mix" ["_law_vectors", "_law_way"] 5 (spR R_law_mix) := by
  have nd := sc_law_mix.nd
  refine ⟨f, fd, fun_ok F sc_law_mix (fun as d h => ?_) (fun cdv A outer s H E hr => ?_), mgf, F.kp, bd⟩
  · exact len_law_mix h
  refine ⟨_, (pss_cons (ps_par (i := 2) (j := 3) (by rfl) nd rfl rfl (by decide) rfl rfl (pa_cons (pe_callB (ck_len K) (by rfl) T.len bt_len (pa_cons (pv 0) pa_nil)) (pa_cons (pe_lst pa_nil) pa_nil)) (by rfl))
      (pss_cons (ps_set (i := 4) nd rfl (Or.inr rfl) (pe_lc (own := [("_law_axis", 6)]) (g := gName 6) (by rfl) nd (pi_range1 (by rfl) T.range (pa_cons (pv 2) pa_nil)) (blkOk_by (own := [("_law_axis", 6)]) (by kernel_rfl)) (fun _ _ _ _ _ => (pg_name (i := 6) nd rfl (Or.inr rfl))) (fun _ _ _ _ _ => pts_nil) (fun _ _ _ _ _ => (pe_lc (own := [("_law_one", 5)]) (g := gName 5) (by rfl) nd (pik_tup K (pv 0)) (blkOk_by (own := [("_law_one", 5)]) (by kernel_rfl)) (fun _ _ _ _ _ => (pg_name (i := 5) nd rfl (Or.inl rfl))) (fun _ _ _ _ _ => pts_nil) (fun _ _ _ _ _ => (pe_ix (ixk K) (pv 5) (pv 6) (fun _ _ => rfl)))))))
      (pss_cons (ps_set (i := 7) nd rfl (Or.inl rfl) (pe_callH h_law_determinant hr (by decide) (by rfl) (pa_cons (pv 4) pa_nil)))
      (pss_cons (ps_for PassesOwn.never rfl (pi_range1 (by rfl) T.range (pa_cons (pv 2) pa_nil)) (pg_name (i := 8) nd rfl (Or.inr rfl)) (pss_one (ps_expr (pe_bm PySem.F.plainAttrs_list PySem.F.slot_list_append PySem.F.type_list_append mt_append (pv 3) (pa_cons (pe_callH h_law_determinant hr (by decide) (by rfl) (pa_cons (pe_lc (own := [("_law_j", 9)]) (g := gName 9) (by rfl) nd (pi_range1 (by rfl) T.range (pa_cons (pv 2) pa_nil)) (blkOk_by (own := [("_law_j", 9)]) (by kernel_rfl)) (fun _ _ _ _ _ => (pg_name (i := 9) nd rfl (Or.inl rfl))) (fun _ _ _ _ _ => pts_nil) (fun _ _ _ _ _ => (pe_op (opk_plus K) (pe_op (opk_plus K) (pe_slice (slk K) (pe_ix (ixk K) (pv 4) (pv 9) (fun _ _ => rfl)) po_none (po_some (pv 8))) (pe_lst (pa_cons (pe_ix (ixk K) (pv 1) (pv 9) (fun _ _ => rfl)) pa_nil))) (pe_slice (slk K) (pe_ix (ixk K) (pv 4) (pv 9) (fun _ _ => rfl)) (po_some (pe_op (opk_plus K) (pv 8) pe_int)) po_none)))) pa_nil)) pa_nil)))))
      (pss_one (ps_ret (pe_ifExp (pt_cmpR op_gt (pv 7) pe_int (nomark _)) (pe_tup (pa_cons (pv 7) (pa_cons (pv 3) pa_nil))) (pe_tup (pa_cons (pe_op op_sub pe_int (pv 7)) (pa_cons (pe_lc (own := [("_law_x", 10)]) (g := gName 10) (by rfl) nd (pik_list K (pv 3)) (blkOk_by (own := [("_law_x", 10)]) (by kernel_rfl)) (fun _ _ _ _ _ => (pg_name (i := 10) nd rfl (Or.inl rfl))) (fun _ _ _ _ _ => pts_nil) (fun _ _ _ _ _ => (pe_op op_sub pe_int (pv 10)))) pa_nil)))))))))), ?_⟩
  rintro m b σ H as d Q ⟨vs, way, rfl, hS, h1, hw1, hwb, rfl⟩ Ev q
  have hl3 := hS.1
  have hC := sq_cols hS
  refine q_parNew Ev (G.is (g_cb (ga_cons (g_var rfl) ga_nil) onk_lenT) (by rw [List.length_map])) fun p σ1 H1 np hb E1 => ?_
  refine q_asg E1 (g_lcA (zs := rg 0 vs.length) (e := D.int) (u := fun z ds => ds.set 6 (.im (.int z))) (fun a => lI (vs.map fun v => v.getD a.toNat 0)) ((gi_rng1 (ga_cons (g_var rfl) ga_nil) (by omega)).is (by rw [Int.toNat_natCast])) (by rw [rg_len]; omega) (fun z _ => tg_name)
    (fun p acc z hz => G.is (g_lcA (zs := vs) (e := tI) (u := fun v ds => ds.set 5 (.im (tI v))) (fun v => D.int (v.getD z.toNat 0)) (gi_tup (g_var rfl)) (by omega) (fun z _ => tg_name) (fun p2 acc2 v hv => g_op (g_var rfl) (g_var rfl) (o2_ixT (xs := v.map D.int) ?_ ?_))) ?_)) fun σ2 H2 E2 => ?_
  · obtain ⟨i, hi⟩ := List.getElem?_of_mem hz
    obtain ⟨hi1, rfl⟩ := rg_get hi
    omega
  · obtain ⟨i, hi⟩ := List.getElem?_of_mem hz
    obtain ⟨hi1, rfl⟩ := rg_get hi
    have hs := (hS.2 v hv).1
    have e : ((0 : Int) + (i : Int)).toNat = i := by omega
    rw [e, List.getElem?_map, getD_get (l := v) (k := i) (d := 0) (by omega)] <;> rfl
  · show D.lst _ = D.lst _
    rw [List.map_map] <;> rfl
  have e0 : (rg 0 vs.length).map (fun a => lI (vs.map fun v => v.getD a.toNat 0)) = (cols vs).map lI := by
    unfold cols
    rw [List.map_map] <;> rfl
  rw [e0] at E2
  refine q_asg E2 (g_call (ga_cons (g_var rfl) ga_nil) ⟨cols vs, rfl, hC.1, by omega, rfl⟩) fun σ3 H3 E3 => ?_
  refine q_forO (i0 := 8) (zs := rg 0 vs.length) (e := D.int) (u := fun z ds => ds.set 8 (.im (.int z))) E3 ((gi_rng1 (ga_cons (g_var rfl) ga_nil) (by omega)).is (by rw [Int.toNat_natCast])) (fun z _ => tg_name)
    (fun i ds' ys' => ys' = ((List.range i).map fun k => det (chg (cols vs) way k)).map D.int ∧ ∃ e5 e6 e8 e9 e10, ds' = [.im (.tup (vs.map tI)), .im (tI way), .im (.int (vs.length : Int)), .raw (.ref p), .im (.lst ((cols vs).map lI)), e5, e6, .im (.int (det (cols vs))), e8, e9, e10]) ⟨rfl, _, _, _, _, _, rfl⟩ ?_ ?_
  · rintro bb k z ds' ys' σ' H' N hz ⟨rfl, e5, e6, e8, e9, e10, rfl⟩ E' hN
    obtain ⟨hk, rfl⟩ := rg_get hz
    have ez : (0 : Int) + (k : Int) = (k : Int) := Int.zero_add _
    rw [ez] at E'
    have hk0 : (k : Int).toNat = k := by omega
    have hk1 : ((k : Int) + 1).toNat = k + 1 := by omega
    have hc := sq_chg (k := k) hC.1 (by omega) hwb (by omega)
    have hji : ∀ j ∈ rg 0 vs.length, 0 ≤ j ∧ j.toNat < vs.length := fun j hj => by
      obtain ⟨i, hi⟩ := List.getElem?_of_mem hj
      obtain ⟨hi1, rfl⟩ := rg_get hi
      omega
    refine s_app E' rfl (by rw [List.length_map, List.length_map, List.length_range]; omega) (g_call (ga_cons (G.is (g_lcA (zs := rg 0 vs.length) (e := D.int) (u := fun z ds => ds.set 9 (.im (.int z))) (fun j => lI (((cols vs).getD j.toNat []).take k ++ [way.getD j.toNat 0] ++ ((cols vs).getD j.toNat []).drop (k + 1))) ((gi_rng1 (ga_cons (g_var rfl) ga_nil) (by omega)).is (by rw [Int.toNat_natCast])) (by rw [rg_len]; omega) (fun z _ => tg_name)
      (fun p acc j hj => G.is (g_op (g_op (g_slice (g_op (g_var rfl) (g_var rfl) (o2_ixL (d := lI ((cols vs).getD j.toNat [])) (hji j hj).1 ?_)) go_none (go_some (g_var rfl)) (os_toL (by omega))) (g_lst (ga_cons (g_op (g_var rfl) (g_var rfl) (o2_ixT (d := .int (way.getD j.toNat 0)) (hji j hj).1 ?_)) ga_nil) (by simp)) (o2_addL ?_)) (g_slice (g_op (g_var rfl) (g_var rfl) (o2_ixL (d := lI ((cols vs).getD j.toNat [])) (hji j hj).1 ?_)) (go_some (g_op (g_var rfl) g_int o2_addI)) go_none (os_fromL (by omega))) (o2_addL ?_)) ?_)) ?_) ga_nil) ⟨chg (cols vs) way k, rfl, hc.1, by omega, rfl⟩) fun H4 E4 => hN _ _ _ H4 ⟨?_, _, _, _, _, _, rfl⟩ E4
    · rw [List.getElem?_map, getD_get (l := cols vs) (k := j.toNat) (d := []) (by have := hji j hj; omega)] <;> rfl
    · rw [List.getElem?_map, getD_get (l := way) (k := j.toNat) (d := 0) (by have := hji j hj; omega)] <;> rfl
    · have := (hC.1.2 _ (getD_mem (l := cols vs) (k := j.toNat) (d := []) (by have := hji j hj; omega))).1
      rw [List.length_take, List.length_map, List.length_singleton]
      omega
    · rw [List.getElem?_map, getD_get (l := cols vs) (k := j.toNat) (d := []) (by have := hji j hj; omega)] <;> rfl
    · have := (hC.1.2 _ (getD_mem (l := cols vs) (k := j.toNat) (d := []) (by have := hji j hj; omega))).1
      rw [List.length_append, List.length_take, List.length_drop, List.length_map, List.length_singleton]
      omega
    · show D.lst _ = D.lst _
      rw [List.map_append, List.map_append, List.map_take, List.map_drop, hk0, hk1] <;> rfl
    · show D.lst _ = D.lst _
      rw [chg_rg hC.2 hw1]
    · rw [List.range_succ, List.map_append, List.map_append] <;> rfl
  · rintro ds' ys' σ' H' ⟨rfl, e5, e6, e8, e9, e10, rfl⟩ E'
    rw [rg_len] at E'
    have E5 := E'.done (i := 3) np hb rfl
    refine s_ret E5 (g_if (gt_test (g_op (g_var rfl) g_int o2_gt)) (fun hc => ?_) (fun hc => ?_)) q
    · have hc' : 0 < det (cols vs) := by simpa using hc
      refine G.is (g_tup (ga_cons (g_var rfl) (ga_cons (g_var rfl) ga_nil)) (by simp)) ?_
      unfold mixW mixK
      simp only [if_pos hc']
    · have hc' : ¬ 0 < det (cols vs) := by simpa using hc
      refine G.is (g_tup (ga_cons (g_op g_int (g_var rfl) o2_sub) (ga_cons (g_lcA (zs := (List.range vs.length).map fun k => det (chg (cols vs) way k)) (e := D.int) (u := fun z ds => ds.set 10 (.im (.int z))) (fun x => D.int (0 - x)) (gi_list (g_var rfl)) (by rw [List.length_map, List.length_range]; omega) (fun z _ => tg_name) (fun p acc z hz => g_op g_int (g_var rfl) o2_sub)) ga_nil)) (by simp)) ?_
      unfold mixW mixK
      simp only [if_neg hc', List.map_map]
      show D.tup [_, D.lst _] = D.tup [_, D.lst _]
      rw [List.map_map] <;> rfl

def lkept (vs : List (List Int)) (pl : List Int) (way : List Int) : Bool := (rg 0 vs.length).all fun k => (decide (0 < mixK vs way k.toNat) && decide (mixK vs way k.toNat < mixW vs)) || (mixK vs way k.toNat == (if k ∈ pl then mixW vs else 0))
def lboxOf (apex : List Int) (vs : List (List Int)) (pl : List Int) : List (List Int) := ((bxs vs).filter (lkept vs pl)).map (shift apex)
def R_law_cone_box (as : List D) (d : D) : Prop := ∃ apex vs pl, as = [coneD apex vs pl] ∧ ConeOk apex vs pl ∧ d = .lst ((lboxOf apex vs pl).map tI)
theorem len_law_cone_box {as : List D} {d : D} (h : R_law_cone_box as d) : as.length = 1 := by
  obtain ⟨x, y, z, rfl, _⟩ := h
  rfl
theorem len_all {α : Type} (c : α → Bool) : ∀ xs : List α, (((xs.filter c).length : Int) == (xs.length : Int)) = xs.all c
  | [] => by simp
  | x :: xs => by
    have ih := len_all c xs
    have hle := List.length_filter_le c xs
    cases hx : c x with
    | true =>
      rw [List.filter_cons_of_pos hx, List.all_cons, hx, Bool.true_and, ← ih, List.length_cons, List.length_cons, Bool.eq_iff_iff]
      simp
    | false =>
      rw [List.filter_cons_of_neg (by rw [hx]; decide), List.all_cons, hx, Bool.false_and, List.length_cons]
      exact beq_eq_false_iff_ne.mpr (by omega)
theorem shift_rg {apex way : List Int} {n : Nat} (h1 : apex.length = n) (h2 : way.length = n) : (rg 0 n).map (fun k => D.int (apex.getD k.toNat 0 + way.getD k.toNat 0)) = (shift apex way).map D.int := by
  apply List.ext_getElem?
  intro i
  unfold shift rg
  rw [List.map_map, List.map_zipWith, List.getElem?_map, List.getElem?_zipWith]
  by_cases hi : i < n
  · rw [List.getElem?_range hi, getD_get (l := apex) (k := i) (d := 0) (by omega), getD_get (l := way) (k := i) (d := 0) (by omega)]
    show some (D.int (apex.getD ((0 : Int) + (i : Int)).toNat 0 + way.getD ((0 : Int) + (i : Int)).toNat 0)) = _
    rw [show ((0 : Int) + (i : Int)).toNat = i by omega]
  · rw [List.getElem?_eq_none (by rw [List.length_range]; omega), List.getElem?_eq_none (by omega)] <;> rfl
abbrev s_law_cone_box : Stmt := topS 33
theorem sc_law_cone_box : FnScope ["_law_cone_here", "_law_apex", "_law_vectors", "_law_places", "_law_size", "_law_found", "_law_axis", "_law_low", "_law_high", "_law_one", "_law_longer", "_law_p", "_law_x", "_law_told", "_law_way", "_law_whole", "_law_mix_here", "_law_good", "_law_k"] ["_law_cone_here"] (defScope s_law_cone_box) := ⟨rfl, rfl, rfl, by decide +kernel, rfl, by decide +kernel, by decide +kernel⟩
-- slots: 0 _law_cone_here, 1 _law_apex*, 2 _law_vectors, 3 _law_places*, 4 _law_size, 5 _law_found, 6 _law_axis*, 7 _law_low, 8 _law_high, 9 _law_one, 10 _law_longer, 11 _law_p*, 12 _law_x, 13 _law_told, 14 _law_way*, 15 _law_whole*, 16 _law_mix_here*, 17 _law_good, 18 _law_k
theorem ok_law_cone_box {f : Addr} {fd : FuncData} (F : Fun K "_law_cone_box" "_law_cone_box" s_law_cone_box f fd) (bd : Binds K fd ["_law_cone_here"] []) (mgf : mg "_law_cone_box" = some (.ref f)) (T : Top mg) (h_law_mix : Has P w K mg base "_law_mix" ["_law_vectors", "_law_way"] 5 (spR R_law_mix)) :
    Has P w K mg base "_law_cone_box" ["_law_cone_here"] 6 (spR R_law_cone_box) := by
  have nd := sc_law_cone_box.nd
  refine ⟨f, fd, fun_ok F sc_law_cone_box (fun as d h => ?_) (fun cdv A outer s H E hr => ?_), mgf, F.kp, bd⟩
  · exact len_law_cone_box h
  refine ⟨_, (pss_cons (ps_asg (pv 0) (pgk_tup K (by rfl) (pgs_cons (pg_name (i := 1) nd rfl (Or.inr rfl)) (pgs_cons (pg_name (i := 2) nd rfl (Or.inl rfl)) (pgs_cons (pg_name (i := 3) nd rfl (Or.inr rfl)) pgs_nil)))))
      (pss_cons (ps_par (i := 4) (j := 5) (by rfl) nd rfl rfl (by decide) rfl rfl (pa_cons (pe_callB (ck_len K) (by rfl) T.len bt_len (pa_cons (pv 1) pa_nil)) (pa_cons (pe_lst (pa_cons (pe_tup pa_nil) pa_nil)) pa_nil)) (by rfl))
      (pss_cons (ps_for PassesOwn.never rfl (pi_range1 (by rfl) T.range (pa_cons (pv 4) pa_nil)) (pg_name (i := 6) nd rfl (Or.inr rfl)) (pss_cons (ps_par (i := 7) (j := 8) (by rfl) nd rfl rfl (by decide) rfl rfl (pa_cons (pe_callB (ck_sum K (by rfl)) (by rfl) T.sum bt_sum (pa_cons (pe_lc (own := [("_law_one", 9)]) (g := gName 9) (by rfl) nd (pik_tup K (pv 2)) (blkOk_by (own := [("_law_one", 9)]) (by kernel_rfl)) (fun _ _ _ _ _ => (pg_name (i := 9) nd rfl (Or.inl rfl))) (fun _ _ _ _ _ => pts_nil) (fun _ _ _ _ _ => (pe_callB (call_min2 (by rfl)) (by rfl) T.min bt_min (pa_cons pe_int (pa_cons (pe_ix (ixk K) (pv 9) (pv 6) (fun _ _ => rfl)) pa_nil))))) pa_nil)) (pa_cons (pe_callB (ck_sum K (by rfl)) (by rfl) T.sum bt_sum (pa_cons (pe_lc (own := [("_law_one", 9)]) (g := gName 9) (by rfl) nd (pik_tup K (pv 2)) (blkOk_by (own := [("_law_one", 9)]) (by kernel_rfl)) (fun _ _ _ _ _ => (pg_name (i := 9) nd rfl (Or.inl rfl))) (fun _ _ _ _ _ => pts_nil) (fun _ _ _ _ _ => (pe_callB (call_max2 (by rfl)) (by rfl) T.max bt_max (pa_cons pe_int (pa_cons (pe_ix (ixk K) (pv 9) (pv 6) (fun _ _ => rfl)) pa_nil))))) pa_nil)) pa_nil)) (by rfl))
      (pss_cons (ps_set (i := 10) nd rfl (Or.inl rfl) (pe_lst pa_nil))
      (pss_cons (ps_for PassesOwn.never rfl (pik_list K (pv 5)) (pg_name (i := 11) nd rfl (Or.inr rfl)) (pss_one (ps_set (i := 10) nd rfl (Or.inl rfl) (pe_op (opk_plus K) (pv 10) (pe_lc (own := [("_law_x", 12)]) (g := gName 12) (by rfl) nd (pi_range2 (by rfl) T.range (pa_cons (pv 7) (pa_cons (pe_op (opk_plus K) (pv 8) pe_int) pa_nil))) (blkOk_by (own := [("_law_x", 12)]) (by kernel_rfl)) (fun _ _ _ _ _ => (pg_name (i := 12) nd rfl (Or.inl rfl))) (fun _ _ _ _ _ => pts_nil) (fun _ _ _ _ _ => (pe_op (opk_plus K) (pv 11) (pe_tup (pa_cons (pv 12) pa_nil)))))))))
      (pss_one (ps_set (i := 5) nd rfl (Or.inl rfl) (pv 10)))))))
      (pss_cons (ps_set (i := 13) nd rfl (Or.inl rfl) (pe_lst pa_nil))
      (pss_cons (ps_for PassesOwn.never rfl (pik_list K (pv 5)) (pg_name (i := 14) nd rfl (Or.inr rfl)) (pss_cons (ps_asg (pe_callH h_law_mix hr (by decide) (by rfl) (pa_cons (pv 2) (pa_cons (pv 14) pa_nil))) (pgk_tup K (by rfl) (pgs_cons (pg_name (i := 15) nd rfl (Or.inr rfl)) (pgs_cons (pg_name (i := 16) nd rfl (Or.inr rfl)) pgs_nil))))
      (pss_cons (ps_setLc (i := 17) (own := [("_law_k", 18)]) (g := gName 18) (by rfl) nd rfl rfl (sw_true rfl rfl rfl (by decide +kernel)) (pi_range1 (by rfl) T.range (pa_cons (pv 4) pa_nil)) (blkOk_by (own := [("_law_k", 18)]) (by kernel_rfl)) (fun _ _ _ _ _ => (pg_name (i := 18) nd rfl (Or.inl rfl))) (fun _ _ _ _ _ => (pts_one (PW.pt (pw_or (pt_chain op_lt op_lt pe_int (pe_ix (ixk K) (pv 16) (pv 18) (fun _ _ => rfl)) (pv 15)) (pw_or1 (pt_cmpR (opk_eq K (hu64 hr)) (pe_ix (ixk K) (pv 16) (pv 18) (fun _ _ => rfl)) (pe_ifExp (pt_cmpR (opk_in K) (pv 18) (pv 3) (by rfl)) (pv 15) pe_int) (nomark _))))))) (fun _ _ _ _ _ => (pv 18)))
      (pss_one (ps_set (i := 13) nd rfl (Or.inl rfl) (pe_op (opk_plus K) (pv 13) (pe_ifExp (pt_cmpR (opk_eq K (hu64 hr)) (pe_callB (ck_len K) (by rfl) T.len bt_len (pa_cons (pv 17) pa_nil)) (pv 4) (nomark _)) (pe_lst (pa_cons (pe_callTy (ck_tuple K) (by rfl) T.tuple bt_tuple (pa_cons (pe_lc (own := [("_law_k", 18)]) (g := gName 18) (by rfl) nd (pi_range1 (by rfl) T.range (pa_cons (pv 4) pa_nil)) (blkOk_by (own := [("_law_k", 18)]) (by kernel_rfl)) (fun _ _ _ _ _ => (pg_name (i := 18) nd rfl (Or.inl rfl))) (fun _ _ _ _ _ => pts_nil) (fun _ _ _ _ _ => (pe_op (opk_plus K) (pe_ix (ixk K) (pv 1) (pv 18) (fun _ _ => rfl)) (pe_ix (ixk K) (pv 14) (pv 18) (fun _ _ => rfl))))) pa_nil)) pa_nil)) (pe_lst pa_nil))))))))
      (pss_one (ps_ret (pe_callB (cr_sortedX w (by rfl)) (by rfl) T.sorted bt_sorted (pa_cons (pv 13) pa_nil))))))))), ?_⟩
  rintro m b σ H as d Q ⟨apex, vs, pl, rfl, C, rfl⟩ Ev q
  have n1 := C.n1
  have n3 := C.n3
  have al := C.al
  have hset : ∀ (ds : List Ent) (i j : Nat) (x : Ent), i ≠ j → (ds.set i x)[j]? = ds[j]? := fun ds i j x h => List.getElem?_set_ne h
  refine q_unp3 Ev (g_var rfl) fun σ1 H1 E1 => ?_
  refine q_par E1 (G.is (g_cb (ga_cons (g_var rfl) ga_nil) onk_lenT) (by rw [List.length_map, al])) (g_lst (as := [.tup []]) (ga_cons (g_tup ga_nil (by simp)) ga_nil) (by simp)) fun σ2 H2 E2 => ?_
  have glh : ∀ (r : List V → Hp → VK → Prop) (mm : Int → Int → Int), (∀ i j, ON r [.int i, .int j] (.int (mm i j))) → ∀ (M : Md) ds (k : Nat), k < vs.length → ds[2]? = some (.im (.tup (vs.map tI))) → ds[6]? = some (.im (.int (k : Int))) → ds.length = 19 →
      G M (tCB (rSum K) (tCons (tLc (iTup K (tVar 2)) (gName 9) tYes (tCB r (tCons (tC (.int 0)) (tCons (tOp (rIx K) (tVar 9) (tVar 6)) tNil))) [9]) tNil)) ds (.int (vs.map fun v => mm 0 (v.getD k 0)).sum) := fun r mm hr M ds k hk h2 h6 h19 => by
    refine g_cb (ga_cons (G.is (g_lcA (zs := vs) (e := tI) (u := fun v ds => ds.set 9 (.im (tI v))) (fun v => D.int (mm 0 (v.getD k 0))) (gi_tup (g_var h2)) (by omega) (fun z _ => tg_name)
        (fun p2 acc2 v hv => g_cb (ga_cons g_int (ga_cons (g_op (g_var (d := tI v) ?_) (g_var (d := .int k) ?_) (o2_ixT (xs := v.map D.int) (by omega) ?_)) ga_nil)) (hr _ _))) ?_) ga_nil) (on_sum (ns := vs.map fun v => mm 0 (v.getD k 0)))
    · show ((ds.set 9 .no).set 9 _)[9]? = _
      rw [List.getElem?_set_self (by simp [h19])]
    · show ((ds.set 9 .no).set 9 _)[6]? = _
      rw [hset _ _ _ _ (by decide), hset _ _ _ _ (by decide)]
      exact h6
    · have hs := C.vl v hv
      rw [show ((k : Int)).toNat = k by omega, List.getElem?_map, getD_get (l := v) (k := k) (d := 0) (by omega)] <;> rfl
    · show D.lst _ = D.lst _
      rw [List.map_map] <;> rfl
  refine q_for (i0 := 6) (zs := rg 0 vs.length) (e := D.int) (u := fun z ds => ds.set 6 (.im (.int z))) E2 ((gi_rng1 (ga_cons (g_var rfl) ga_nil) (by omega)).is (by rw [Int.toNat_natCast])) (fun z _ => tg_name)
    (fun i ds' => ∃ e6 e7 e8 e9 e10 e11 e12 e13 e14 e15 e16 e17 e18, ds' = [.im (coneD apex vs pl), .im (tI apex), .im (.tup (vs.map tI)), .im (tI pl), .im (.int (vs.length : Int)), .im (.lst ((boxPts (((lows vs).zip (highs vs)).take i)).map tI)), e6, e7, e8, e9, e10, e11, e12, e13, e14, e15, e16, e17, e18]) ⟨_, _, _, _, _, _, _, _, _, _, _, _, _, rfl⟩ ?_ ?_
  · rintro bb k z ds' σ' H' N hz ⟨e6, e7, e8, e9, e10, e11, e12, e13, e14, e15, e16, e17, e18, rfl⟩ E' hN
    obtain ⟨hk, rfl⟩ := rg_get hz
    have ez : (0 : Int) + (k : Int) = (k : Int) := Int.zero_add _
    rw [ez] at E'
    have hlb := low_b C k
    have hhb := high_b C k
    have hwb := wid_b C k
    generalize hlo : (vs.map fun v => min 0 (v.getD k 0)).sum = lo at hlb hwb
    generalize hhi : (vs.map fun v => max 0 (v.getD k 0)).sum = hi at hhb hwb
    have gz : ((lows vs).zip (highs vs))[k]? = some (lo, hi) := by
      rw [lh_zip, List.getElem?_map, hz, ← hlo, ← hhi]
      show some _ = some _
      dsimp only
      rw [show ((0 : Int) + (k : Int)).toNat = k by omega]
    have hbt := boxPts_take (lh_mem C) k (by omega)
    refine q_par E' ((glh _ min (fun i j => on_min) _ _ k hk rfl rfl rfl).is (by rw [hlo])) ((glh _ max (fun i j => on_max) _ _ k hk rfl rfl rfl).is (by rw [hhi])) fun σ3 H3 E3 => ?_
    refine q_asg E3 (g_lst ga_nil (by simp)) fun σ4 H4 E4 => ?_
    have hfl : ∀ j : Nat, ((boxPts (((lows vs).zip (highs vs)).take k)).take j).flatMap (fun p => (rg lo (hi + 1 - lo).toNat).map fun x => tI (p ++ [x])) = (((boxPts (((lows vs).zip (highs vs)).take k)).take j).flatMap fun p => (rg lo (hi + 1 - lo).toNat).map fun x => p ++ [x]).map tI := fun j => by
      rw [List.map_flatMap]
      simp only [List.map_map]
      rfl
    refine q_for (i0 := 11) (zs := boxPts (((lows vs).zip (highs vs)).take k)) (e := tI) (u := fun z ds => ds.set 11 (.im (tI z))) E4 (gi_list (g_var rfl)) (fun z _ => tg_name)
      (fun j ds' => ∃ e9 e11 e12 e13 e14 e15 e16 e17 e18, ds' = [.im (coneD apex vs pl), .im (tI apex), .im (.tup (vs.map tI)), .im (tI pl), .im (.int (vs.length : Int)), .im (.lst ((boxPts (((lows vs).zip (highs vs)).take k)).map tI)), .im (.int k), .im (.int lo), .im (.int hi), e9, .im (.lst (((boxPts (((lows vs).zip (highs vs)).take k)).take j).flatMap (fun p => (rg lo (hi + 1 - lo).toNat).map fun x => tI (p ++ [x])))), e11, e12, e13, e14, e15, e16, e17, e18]) ⟨_, _, _, _, _, _, _, _, _, rfl⟩ ?_ ?_
    · rintro b2 j p ds2 σ2 H2 N2 hz2 ⟨e9, e11, e12, e13, e14, e15, e16, e17, e18, rfl⟩ E2 hN2
      have hpm := List.mem_of_getElem? hz2
      have hpl := boxPts_mem hpm
      rw [List.length_take] at hpl
      refine s_asg E2 (g_op (g_var rfl) (g_lcA (zs := rg lo (hi + 1 - lo).toNat) (e := D.int) (u := fun z ds => ds.set 12 (.im (.int z))) (fun x => tI (p ++ [x])) (gi_rng2 (ga_cons (g_var rfl) (ga_cons (g_op (g_var rfl) g_int o2_addI) ga_nil)) ⟨by omega, by omega, by omega, by omega⟩) (by rw [rg_len]; omega) (fun z _ => tg_name)
        (fun p2 acc x hx => G.is (g_op (g_var rfl) (g_tup (ga_cons (g_var rfl) ga_nil) (by simp)) (o2_addT ?_)) ?_)) (o2_addL ?_)) fun σ5 H5 E5 => hN2 _ σ5 H5 ?_ E5
      · rw [List.length_map, List.length_singleton]
        omega
      · show D.tup _ = D.tup _
        rw [List.map_append] <;> rfl
      · have h1 := flat_len (fun p => (rg lo (hi + 1 - lo).toNat).map fun x => tI (p ++ [x])) 10 ((boxPts (((lows vs).zip (highs vs)).take k)).take j) fun p _ => by rw [List.length_map, rg_len]; omega
        rw [List.length_take] at h1
        rw [List.length_map, rg_len]
        omega
      · have h1 : ((boxPts (((lows vs).zip (highs vs)).take k)).take (j + 1)).flatMap (fun p => (rg lo (hi + 1 - lo).toNat).map fun x => tI (p ++ [x])) = ((boxPts (((lows vs).zip (highs vs)).take k)).take j).flatMap (fun p => (rg lo (hi + 1 - lo).toNat).map fun x => tI (p ++ [x])) ++ (rg lo (hi + 1 - lo).toNat).map fun x => tI (p ++ [x]) := by
          rw [List.take_add_one, hz2, List.flatMap_append]
          simp
        rw [h1]
        exact ⟨_, _, _, _, _, _, _, _, _, rfl⟩
    · rintro ds2 σ2 H2 ⟨e9, e11, e12, e13, e14, e15, e16, e17, e18, rfl⟩ E2
      refine s_asg E2 (g_var rfl) fun σ5 H5 E5 => hN _ σ5 H5 ?_ E5
      have h1 : (boxPts (((lows vs).zip (highs vs)).take (k + 1))).map tI = ((boxPts (((lows vs).zip (highs vs)).take k)).take (boxPts (((lows vs).zip (highs vs)).take k)).length).flatMap (fun p => (rg lo (hi + 1 - lo).toNat).map fun x => tI (p ++ [x])) := by
        rw [hfl, List.take_length, List.take_add_one, gz]
        show (boxPts (_ ++ [(lo, hi)])).map tI = _
        rw [boxPts_snoc] <;> rfl
      rw [h1]
      exact ⟨_, _, _, _, _, _, _, _, _, _, _, _, _, rfl⟩
  · rintro ds' σ' H' ⟨e6, e7, e8, e9, e10, e11, e12, e13, e14, e15, e16, e17, e18, rfl⟩ E'
    have hall : ((lows vs).zip (highs vs)).take (rg 0 vs.length).length = (lows vs).zip (highs vs) := List.take_of_length_le (by rw [List.length_zip, lows_len, highs_len, rg_len]; omega)
    rw [hall] at E'
    refine q_asg E' (g_lst ga_nil (by simp)) fun σ3 H3 E3 => ?_
    refine q_for (i0 := 14) (zs := bxs vs) (e := tI) (u := fun z ds => ds.set 14 (.im (tI z))) E3 (gi_list (g_var rfl)) (fun z _ => tg_name)
      (fun j ds' => ∃ e5 e6 e7 e8 e9 e10 e11 e12 e14 e15 e16 e17 e18, ds' = [.im (coneD apex vs pl), .im (tI apex), .im (.tup (vs.map tI)), .im (tI pl), .im (.int (vs.length : Int)), e5, e6, e7, e8, e9, e10, e11, e12, .im (.lst (((((bxs vs).take j).filter (lkept vs pl)).map (shift apex)).map tI)), e14, e15, e16, e17, e18]) ⟨_, _, _, _, _, _, _, _, _, _, _, _, _, rfl⟩ ?_ ?_
    · rintro b2 j way ds2 σ2 H2 N2 hz2 ⟨e5, e6, e7, e8, e9, e10, e11, e12, e14, e15, e16, e17, e18, rfl⟩ E2 hN2
      have hwm : way ∈ bxs vs := List.mem_of_getElem? hz2
      have hwl := bxs_len hwm
      have hwb := bxs_mem C hwm
      have hcnt := bxs_count C
      have hj : j < (bxs vs).length := (List.getElem?_eq_some_iff.mp hz2).1
      have hji : ∀ j ∈ rg 0 vs.length, 0 ≤ j ∧ j.toNat < vs.length := fun j hj => by
        obtain ⟨i, hi⟩ := List.getElem?_of_mem hj
        obtain ⟨hi1, rfl⟩ := rg_get hi
        omega
      have htk : ((((bxs vs).take (j + 1)).filter (lkept vs pl)).map (shift apex)).map tI = ((((bxs vs).take j).filter (lkept vs pl)).map (shift apex)).map tI ++ (if lkept vs pl way = true then [tI (shift apex way)] else []) := by
        rw [List.take_add_one, hz2, List.filter_append]
        show ((List.map (shift apex) (_ ++ [way].filter (lkept vs pl)))).map tI = _
        by_cases hkz : lkept vs pl way = true
        · rw [if_pos hkz, List.filter_cons_of_pos hkz, List.map_append, List.map_append] <;> rfl
        · rw [if_neg hkz, List.filter_cons_of_neg hkz, List.map_append, List.map_append] <;> rfl
      refine q_unp2 E2 (g_call (ga_cons (g_var rfl) (ga_cons (g_var rfl) ga_nil)) ⟨vs, way, rfl, C.sq, n1, hwl, fun x hx => by have := hwb x hx; omega, rfl⟩) fun σ4 H4 E4 => ?_
      refine q_asg E4 (g_lc (zs := rg 0 vs.length) (e := D.int) (u := fun z ds => ds.set 18 (.im (.int z))) (fun k => (decide (0 < mixK vs way k.toNat) && decide (mixK vs way k.toNat < mixW vs)) || (mixK vs way k.toNat == (if k ∈ pl then mixW vs else 0))) D.int ((gi_rng1 (ga_cons (g_var rfl) ga_nil) (by omega)).is (by rw [Int.toNat_natCast])) (by rw [rg_len]; omega) (fun z _ => tg_name)
        (fun p acc k hk => gt_or (gt_test (g_chain g_int (g_op (g_var rfl) (g_var rfl) (o2_ixL (d := .int (mixK vs way k.toNat)) (hji k hk).1 ?_)) (fun _ => g_var rfl) o2_lt o2_lt)) fun _ => gt_test (g_op (g_op (g_var rfl) (g_var rfl) (o2_ixL (d := .int (mixK vs way k.toNat)) (hji k hk).1 ?_)) (g_if (d := .int (if k ∈ pl then mixW vs else 0)) (gt_test (g_op (g_var rfl) (g_var rfl) o2_in)) (fun h => ?_) (fun h => ?_)) o2_eqI)) (fun p acc k hk _ => g_var rfl)) fun σ5 H5 E5 => ?_
      · rw [List.getElem?_map, List.getElem?_map, List.getElem?_range (hji k hk).2] <;> rfl
      · rw [List.getElem?_map, List.getElem?_map, List.getElem?_range (hji k hk).2] <;> rfl
      · rw [if_pos (of_decide_eq_true h)]
        exact g_var rfl
      · rw [if_neg (of_decide_eq_false h)]
        exact g_int
      · refine s_asg E5 (g_op (g_var rfl) (g_if (c := lkept vs pl way) (d := .lst (if lkept vs pl way = true then [tI (shift apex way)] else [])) (GT.is (gt_test (g_op (g_cb (ga_cons (g_var rfl) ga_nil) onk_lenL) (g_var rfl) o2_eqI)) ?_) (fun h => ?_) (fun h => ?_)) (o2_addL ?_)) fun σ6 H6 E6 => hN2 _ σ6 H6 ?_ E6
        · rw [List.length_map]
          have := len_all (fun k : Int => (decide (0 < mixK vs way k.toNat) && decide (mixK vs way k.toNat < mixW vs)) || (mixK vs way k.toNat == (if k ∈ pl then mixW vs else 0))) (rg 0 vs.length)
          rw [rg_len] at this
          exact this
        · rw [if_pos h]
          refine g_lst (as := [tI (shift apex way)]) (ga_cons (G.is (g_cb (ga_cons (g_lcA (zs := rg 0 vs.length) (e := D.int) (u := fun z ds => ds.set 18 (.im (.int z))) (fun k => D.int (apex.getD k.toNat 0 + way.getD k.toNat 0)) ((gi_rng1 (ga_cons (g_var rfl) ga_nil) (by omega)).is (by rw [Int.toNat_natCast])) (by rw [rg_len]; omega) (fun z _ => tg_name)
            (fun p acc k hk => g_op (g_op (g_var rfl) (g_var rfl) (o2_ixT (hji k hk).1 ?_)) (g_op (g_var rfl) (g_var rfl) (o2_ixT (hji k hk).1 ?_)) o2_addI)) ga_nil) onk_tupL) ?_) ga_nil) (by simp)
          · rw [List.getElem?_map, getD_get (l := apex) (k := k.toNat) (d := 0) (by have := hji k hk; omega)] <;> rfl
          · rw [List.getElem?_map, getD_get (l := way) (k := k.toNat) (d := 0) (by have := hji k hk; omega)] <;> rfl
          · show D.tup _ = D.tup _
            rw [shift_rg al hwl]
        · rw [if_neg (by rw [h]; decide)]
          exact g_lst ga_nil (by simp)
        · rw [List.length_map, List.length_map]
          have := List.length_filter_le (lkept vs pl) ((bxs vs).take j)
          rw [List.length_take] at this
          split <;> simp <;> omega
        · rw [htk]
          exact ⟨_, _, _, _, _, _, _, _, _, _, _, _, _, rfl⟩
    · rintro ds2 σ2 H2 ⟨e5, e6, e7, e8, e9, e10, e11, e12, e14, e15, e16, e17, e18, rfl⟩ E2
      rw [List.take_length] at E2
      exact s_ret E2 (g_cb (ga_cons (g_var rfl) ga_nil) (on_sort n1 (boxF_len al (lkept vs pl)) (boxF_pw al (lkept vs pl)))) q
end
end Lk
set_option Elab.async false
set_option linter.all false
set_option maxRecDepth 100000
set_option maxHeartbeats 4000000
namespace Lk
open PySem PySem.Spec PyProof.Rows L2 RZ
open Evl (Ex)
section
variable {P : Program} {w : World} {K : PySem.W.Frag} {mg : Str → Option Value} {base : Heap}
/-! _law_alike -/
def AOk : Nat → D → Prop
  | 0, _ => False
  | _ + 1, .int _ => True
  | n + 1, .tup ys => ys.length ≤ 1000 ∧ ∀ y ∈ ys, AOk n y
  | _ + 1, _ => False
def R_alike (n : Nat) (as : List D) (d : D) : Prop := ∃ x : D, as = [x, x] ∧ AOk n x ∧ d = .bl true
theorem len_alike {n : Nat} {as : List D} {d : D} (h : R_alike n as d) : as.length = 2 := by
  obtain ⟨x, rfl, _⟩ := h
  rfl
abbrev s_law_alike : Stmt := topS 34
theorem sc_law_alike : FnScope ["_law_found", "_law_due", "_law_k"] ["_law_found", "_law_due"] (defScope s_law_alike) := ⟨rfl, rfl, rfl, by decide +kernel, rfl, by decide +kernel, by decide +kernel⟩
theorem ok_law_alike1 {f : Addr} {fd : FuncData} (F : Fun K "_law_alike" "_law_alike" s_law_alike f fd) (bd : Binds K fd ["_law_found", "_law_due"] []) (mgf : mg "_law_alike" = some (.ref f)) (T : Top mg) (n : Nat)
    (h_law_alike : Has P w K mg base "_law_alike" ["_law_found", "_law_due"] n (spR (R_alike n))) : Has P w K mg base "_law_alike" ["_law_found", "_law_due"] (n + 1) (spR (R_alike (n + 1))) := by
  have nd := sc_law_alike.nd
  refine ⟨f, fd, fun_ok F sc_law_alike (fun as d h => len_alike h) (fun cdv A outer s H E hr => ?_), mgf, F.kp, bd⟩
  refine ⟨_, (pss_cons (ps_if (pt_val (pe_callB (ck_isi K) (by rfl) T.isinstance bt_isinstance (pa_cons (pv 1) (pa_cons (pe_tup (pa_cons (pe_bltn (v := .ty "tuple") (by rfl) T.tuple bt_tuple rfl) (pa_cons (pe_bltn (v := .ty "list") (by rfl) T.list bt_list rfl) pa_nil))) pa_nil)))) (pss_cons (ps_if (PW.pt (pw_or (pt_not (pt_val (pe_callB (ck_isi K) (by rfl) T.isinstance bt_isinstance (pa_cons (pv 0) (pa_cons (pe_tup (pa_cons (pe_bltn (v := .ty "tuple") (by rfl) T.tuple bt_tuple rfl) (pa_cons (pe_bltn (v := .ty "list") (by rfl) T.list bt_list rfl) pa_nil))) pa_nil))))) (pw_or1 (pt_cmpR (opk_ne K (hu64 hr)) (pe_callB (ck_isi K) (by rfl) T.isinstance bt_isinstance (pa_cons (pv 0) (pa_cons (pe_bltn (v := .ty "list") (by rfl) T.list bt_list rfl) pa_nil))) (pe_callB (ck_isi K) (by rfl) T.isinstance bt_isinstance (pa_cons (pv 1) (pa_cons (pe_bltn (v := .ty "list") (by rfl) T.list bt_list rfl) pa_nil))) (nomark _))))) (pss_one (ps_ret pe_bl)) pss_nil)
      (pss_cons (ps_if (pt_cmpR (opk_ne K (hu64 hr)) (pe_callB (ck_len K) (by rfl) T.len bt_len (pa_cons (pv 0) pa_nil)) (pe_callB (ck_len K) (by rfl) T.len bt_len (pa_cons (pv 1) pa_nil)) (nomark _)) (pss_one (ps_ret pe_bl)) pss_nil)
      (pss_one (ps_ret (pe_cmpR (opk_eq K (hu64 hr)) (pe_lc (own := [("_law_k", 2)]) (g := gName 2) (by rfl) nd (pi_range1 (by rfl) T.range (pa_cons (pe_callB (ck_len K) (by rfl) T.len bt_len (pa_cons (pv 1) pa_nil)) pa_nil)) (blkOk_by (own := [("_law_k", 2)]) (by kernel_rfl)) (fun _ _ _ _ _ => (pg_name (i := 2) nd rfl (Or.inl rfl))) (fun _ _ _ _ _ => (pts_one (pt_not (pt_val (pe_callH h_law_alike hr (Nat.le_refl _) (by rfl) (pa_cons (pe_ix (ixk K) (pv 0) (pv 2) (fun _ _ => rfl)) (pa_cons (pe_ix (ixk K) (pv 1) (pv 2) (fun _ _ => rfl)) pa_nil))))))) (fun _ _ _ _ _ => (pv 2))) (pe_lst pa_nil) (nomark _)))))) pss_nil)
      (pss_cons (ps_if (PW.pt (pw_or (pt_cmpR op_isN (pv 1) pe_non (nomark _)) (pw_or1 (pt_val (pe_callB (ck_isi K) (by rfl) T.isinstance bt_isinstance (pa_cons (pv 1) (pa_cons (pe_bltn (v := .ty "str") (by rfl) T.str bt_str rfl) pa_nil))))))) (pss_one (ps_ret (pe_and (pe_cmpR (opk_eq K (hu64 hr)) (pv 0) (pv 1) (nomark _)) (pe_one (pe_cmpR (opk_eq K (hu64 hr)) (pe_callB (ck_isi K) (by rfl) T.isinstance bt_isinstance (pa_cons (pv 0) (pa_cons (pe_bltn (v := .ty "str") (by rfl) T.str bt_str rfl) pa_nil))) (pe_callB (ck_isi K) (by rfl) T.isinstance bt_isinstance (pa_cons (pv 1) (pa_cons (pe_bltn (v := .ty "str") (by rfl) T.str bt_str rfl) pa_nil))) (nomark _)))))) pss_nil)
      (pss_one (ps_ret (pe_and (pe_callB (ck_isi K) (by rfl) T.isinstance bt_isinstance (pa_cons (pv 0) (pa_cons (pe_bltn (v := .ty "int") (by rfl) T.int bt_int rfl) pa_nil))) (pe_and (pe_cmpR (opk_eq K (hu64 hr)) (pe_callB (ck_isi K) (by rfl) T.isinstance bt_isinstance (pa_cons (pv 0) (pa_cons (pe_bltn (v := .ty "bool") (by rfl) T.bool bt_bool rfl) pa_nil))) (pe_callB (ck_isi K) (by rfl) T.isinstance bt_isinstance (pa_cons (pv 1) (pa_cons (pe_bltn (v := .ty "bool") (by rfl) T.bool bt_bool rfl) pa_nil))) (nomark _)) (pe_one (pe_cmpR (opk_eq K (hu64 hr)) (pv 0) (pv 1) (nomark _))))))))), ?_⟩
  rintro m b σ H as d Q ⟨x, rfl, hx, rfl⟩ Ev q
  have gty : ∀ (M : Md) ds, GA M (tCons (tC (.ty "tuple")) (tCons (tC (.ty "list")) tNil)) ds [.ty "tuple", .ty "list"] := fun M ds => ga_cons g_ty (ga_cons g_ty ga_nil)
  cases x with
  | bl _ => exact hx.elim
  | non => exact hx.elim
  | ty _ => exact hx.elim
  | lst _ => exact hx.elim
  | int i =>
    refine s_when (c := false) Ev (GT.is (gt_B (g_cb (ga_cons (g_var rfl) (ga_cons (g_tup (gty _ _) (by simp)) ga_nil)) (on_isiT (fun _ h => nomatch h) kit_it kit_il))) rfl) (fun hc => nomatch hc) (fun hc H2 E2 => ?_)
    refine s_when (c := false) E2 (GT.is (gt_or (gt_test (g_op (g_var rfl) g_non o2_isN)) fun _ => gt_B (g_cb (ga_cons (g_var rfl) (ga_cons g_ty ga_nil)) (on_isi (fun _ h => nomatch h) kit_is))) rfl) (fun hc => nomatch hc) (fun hc H3 E3 => ?_)
    refine s_ret E3 (G.is (g_andV (g_cb (ga_cons (g_var rfl) (ga_cons g_ty ga_nil)) (on_isi (fun _ h => nomatch h) kit_ii)) fun _ => g_andV (g_op (g_cb (ga_cons (g_var rfl) (ga_cons g_ty ga_nil)) (on_isi (fun _ h => nomatch h) kit_ib)) (g_cb (ga_cons (g_var rfl) (ga_cons g_ty ga_nil)) (on_isi (fun _ h => nomatch h) kit_ib)) o2_eqB) fun _ => g_op (g_var rfl) (g_var rfl) o2_eqI) ?_) q
    simp
  | tup ys =>
    obtain ⟨hl, hy⟩ := hx
    refine s_when (c := true) Ev (GT.is (gt_B (g_cb (ga_cons (g_var rfl) (ga_cons (g_tup (gty _ _) (by simp)) ga_nil)) (on_isiT (fun _ h => nomatch h) kit_tt kit_tl))) rfl) (fun hc H2 E2 => ?_) (fun hc => nomatch hc)
    refine s_when (c := false) E2 (GT.is (gt_or (gt_not (gt_B (g_cb (ga_cons (g_var rfl) (ga_cons (g_tup (gty _ _) (by simp)) ga_nil)) (on_isiT (fun _ h => nomatch h) kit_tt kit_tl)))) fun _ =>
      gt_test (g_op (g_cb (ga_cons (g_var rfl) (ga_cons g_ty ga_nil)) (on_isi (fun _ h => nomatch h) kit_tl)) (g_cb (ga_cons (g_var rfl) (ga_cons g_ty ga_nil)) (on_isi (fun _ h => nomatch h) kit_tl)) o2_neB)) rfl) (fun hc => nomatch hc) (fun hc H3 E3 => ?_)
    refine s_when (c := false) E3 (GT.is (gt_test (g_op (g_cb (ga_cons (g_var rfl) ga_nil) onk_lenT) (g_cb (ga_cons (g_var rfl) ga_nil) onk_lenT) o2_neI)) (by simp)) (fun hc => nomatch hc) (fun hc H4 E4 => ?_)
    refine s_ret E4 (G.is (g_op (g_lc (zs := rg 0 ys.length) (e := D.int) (u := fun z ds => ds.set 2 (.im (.int z))) (fun _ => false) D.int ((gi_rng1 (ga_cons (g_cb (ga_cons (g_var rfl) ga_nil) onk_lenT) ga_nil) (by omega)).is (by rw [Int.toNat_natCast])) (by rw [rg_len]; omega) (fun z _ => tg_name)
      (fun p acc k hk => ?_) (fun p acc z _ h => nomatch h)) (g_lst ga_nil (by simp)) (o2_eqL (xs := (rg 0 ys.length).filter fun _ => false) (ys := []))) ?_) q
    · obtain ⟨i, hi⟩ := List.getElem?_of_mem hk
      obtain ⟨hi1, rfl⟩ := rg_get hi
      have e : ((0 : Int) + (i : Int)).toNat = i := by omega
      have hg : ys[((0 : Int) + (i : Int)).toNat]? = some ys[i] := by rw [e, List.getElem?_eq_getElem hi1]
      exact GT.is (gt_not (gt_B (g_call (ga_cons (g_op (g_var rfl) (g_var rfl) (o2_ixT (by omega) hg)) (ga_cons (g_op (g_var rfl) (g_var rfl) (o2_ixT (by omega) hg)) ga_nil)) ⟨ys[i], rfl, hy _ (List.getElem_mem hi1), rfl⟩))) rfl
    · simp
theorem ok_law_alike {f : Addr} {fd : FuncData} (F : Fun K "_law_alike" "_law_alike" s_law_alike f fd) (bd : Binds K fd ["_law_found", "_law_due"] []) (mgf : mg "_law_alike" = some (.ref f)) (T : Top mg) : ∀ n : Nat, Has P w K mg base "_law_alike" ["_law_found", "_law_due"] n (spR (R_alike n))
  | 0 => ⟨f, fd, fn_none (fun as d h => by obtain ⟨x, _, h1, _⟩ := h; exact h1), mgf, F.kp, bd⟩
  | n + 1 => ok_law_alike1 F bd mgf T n (ok_law_alike F bd mgf T n)
def R_law_alike := R_alike 3
end
end Lk
set_option Elab.async false
set_option linter.all false
set_option maxRecDepth 100000
set_option maxHeartbeats 4000000
/-! the row from which the law draws -/
namespace Lk
open PySem PySem.Spec PyProof.Rows L2 RZ
open Evl (Ex)

/-- the script: known to its object, or the module's -/
def Scr (K : PySem.W.Frag) (H : Hp) (sc : Addr) (ns : List Int) : Prop := (∃ ob, H sc = some (.frz ob (.lst (ns.map V.int)))) ∨
  ∃ (o : Obj) (its : Array Value) (n : Nat), K.lookup sc = some o ∧ o.cls = .type "list" ∧ o.dict = none ∧ o.data = .seq its n ∧ its.size ≤ sizeLine ∧ Vals (ns.map V.int) its.toList
theorem Scr.sq {K : PySem.W.Frag} {H : Hp} {sc : Addr} {ns : List Int} (h : Scr K H sc ns) : SqL K H sc (ns.map V.int) := by
  rcases h with h | h
  · exact .inl (.inr h)
  · exact .inr h
theorem Scr.ex {K : PySem.W.Frag} {H H' : Hp} {sc : Addr} {ns : List Int} (e : Ex H H') (h : Scr K H sc ns) : Scr K H' sc ns := by
  rcases h with ⟨ob, h⟩ | h
  · exact .inl ⟨ob, e _ _ h⟩
  · exact .inr h
/-- off r, where a list stands -/
theorem Scr.off {K : PySem.W.Frag} {H H' : Hp} {r sc : Addr} {ns : List Int} {xs : List V} (hr : H r = some (.lst xs)) (e : ∀ a x, a ≠ r → H a = some x → H' a = some x) (h : Scr K H sc ns) : Scr K H' sc ns := by
  rcases h with ⟨ob, h⟩ | h
  · refine .inl ⟨ob, e _ _ (fun z => ?_) h⟩
    subst z
    rw [hr] at h
    cases h
  · exact .inr h
/-- the row's contents -/
def RowIs (K : PySem.W.Frag) (H : Hp) (r sc : Addr) (ns c : List Int) : Prop := H r = some (.lst (.ref sc :: c.map V.int)) ∧ Scr K H sc ns
theorem RowIs.ex {K : PySem.W.Frag} {H H' : Hp} {r sc : Addr} {ns c : List Int} (e : Ex H H') (h : RowIs K H r sc ns c) : RowIs K H' r sc ns c := ⟨e _ _ h.1, h.2.ex e⟩
def CellsOk (c : List Int) : Prop := ∃ i st rest : Int, c = [i, st, rest] ∧ 0 ≤ i ∧ 0 ≤ st ∧ st < 2147483647 ∧ 0 ≤ rest
def RowOk (K : PySem.W.Frag) (r : Addr) (H : Hp) : Prop := ∃ sc ns c, RowIs K H r sc ns c ∧ CellsOk c
theorem RowOk.ex {K : PySem.W.Frag} {H H' : Hp} {r : Addr} (e : Ex H H') (h : RowOk K r H) : RowOk K r H' := by
  obtain ⟨sc, ns, c, h1, h2⟩ := h
  exact ⟨sc, ns, c, h1.ex e, h2⟩
/-- all but the row is as it was -/
def Off (r : Addr) (H H' : Hp) : Prop := ∀ a x, a ≠ r → H a = some x → H' a = some x
theorem Off.v {r : Addr} {o : List Addr} {H H' : Hp} (h : Off r H H') (hr : r ∈ o) : Xv o H H' := fun a x n e => h a x (fun z => n (by rw [z]; exact hr)) e
/-- a mode that knows the row and bears a draw -/
structure RowMd (K : PySem.W.Frag) (r : Addr) (m : Md) : Prop where
  ro : r ∈ m.o
  ok : ∀ H, m.J H → RowOk K r H
  st : ∀ H H', Off r H H' → RowOk K r H' → m.J H → m.J H'
theorem RowMd.ow {K : PySem.W.Frag} {r p : Addr} {m : Md} {ys : List D} (R : RowMd K r m) (np : p ∉ m.o) : RowMd K r (m.ow p ys) := by
  have hne : r ≠ p := fun e => np (by rw [← e]; exact R.ro)
  refine ⟨List.mem_cons_of_mem _ R.ro, fun H j => (R.ok _ j.1).ex mns_sub, fun H H' e h j => ?_⟩
  obtain ⟨j1, us, h1, h2⟩ := j
  have hp' : H' p = some (.lst us) := e p _ (fun z => hne z.symm) h1
  refine ⟨R.st _ _ (fun a x n q => ?_) ?_ j1, us, hp', h2.mono (e.v (List.mem_cons_of_mem _ R.ro))⟩
  · obtain ⟨n2, q⟩ := mns_le q
    rw [mns_ne n2]
    exact e a x n q
  · obtain ⟨sc, ns, c, ⟨k1, k2⟩, k3⟩ := h
    refine ⟨sc, ns, c, ⟨by rw [mns_ne hne]; exact k1, ?_⟩, k3⟩
    rcases k2 with ⟨ob, k2⟩ | k2
    · refine .inl ⟨ob, ?_⟩
      rw [mns_ne fun z => by subst z; rw [hp'] at k2; cases k2]
      exact k2
    · exact .inr k2
/-- a promise of a def that draws: its first argument is the row -/
def spW (K : PySem.W.Frag) (Pre : List D → Prop) (R : List D → D → Prop) : Sp := fun vs H Q _ => ∃ (o : List Addr) (r : Addr) (as : List D) (us : List V), vs = .ref r :: us ∧ r ∈ o ∧ (∀ a ∈ o, ∃ x, H a = some x) ∧ RowOk K r H ∧ IsAll o H as us ∧ Pre as ∧
  ∀ d v H', R as d → Off r H H' → RowOk K r H' → Is o H' d v → Q v H'
theorem gx_draw {K : PySem.W.Frag} {r : Addr} {m : Md} {ds : List Ent} {i : Nat} {ta : TA} {as : List D} {Pre : List D → Prop} {R : List D → D → Prop} {E : XK} (W : RowMd K r m) (h0 : ds[i]? = some (.raw (.ref r))) (ga : GA m ta ds as) (hp : Pre as) :
    GX m (tCall (spW K Pre R) [] E (tCons (tVar i) ta)) ds (R as) := fun σ H Es Q q => by
  obtain ⟨x, e, hx⟩ := Es.sl i _ h0
  have hx : x = some (.ref r) := hx
  subst hx
  refine ⟨.ref r, e, ga σ H Es _ fun vs H1 x1 j1 i1 => ?_⟩
  refine ⟨m.o, r, as, vs, by simp, W.ro, m.jl _ j1, W.ok _ j1, i1, hp, fun d v H2 hR off ok iv => ?_⟩
  exact q d v H2 hR (x1.trans (off.v W.ro)) (W.st _ _ off ok j1) iv
/-- the mode of such a def's body -/
def Md.rowM (K : PySem.W.Frag) (o : List Addr) (r : Addr) (H0 : Hp) : Md where
  o := o
  J H := RowOk K r H ∧ ∀ a ∈ o, a ≠ r → ∃ x, H0 a = some x ∧ H a = some x
  jx H H' e j := ⟨j.1.ex e, fun a ha n => let ⟨x, h1, h2⟩ := j.2 a ha n; ⟨x, h1, e a x h2⟩⟩
  jl H j a ha := by
    by_cases e : a = r
    · subst e
      obtain ⟨sc, ns, c, ⟨h, _⟩, _⟩ := j.1
      exact ⟨_, h⟩
    · obtain ⟨x, _, h2⟩ := j.2 a ha e
      exact ⟨x, h2⟩
theorem rowM_md {K : PySem.W.Frag} {o : List Addr} {r : Addr} {H0 : Hp} (hr : r ∈ o) : RowMd K r (Md.rowM K o r H0) :=
  ⟨hr, fun H j => j.1, fun H H' e h j => ⟨h, fun a ha n => let ⟨x, h1, h2⟩ := j.2 a ha n; ⟨x, h1, e a x n h2⟩⟩⟩
/-- with the row's contents known -/
def Md.rowX (K : PySem.W.Frag) (o : List Addr) (r : Addr) (H0 : Hp) (sc : Addr) (ns c : List Int) : Md where
  o := o
  J H := RowIs K H r sc ns c ∧ ∀ a ∈ o, a ≠ r → ∃ x, H0 a = some x ∧ H a = some x
  jx H H' e j := ⟨j.1.ex e, fun a ha n => let ⟨x, h1, h2⟩ := j.2 a ha n; ⟨x, h1, e a x h2⟩⟩
  jl H j a ha := by
    by_cases e : a = r
    · subst e
      exact ⟨_, j.1.1⟩
    · obtain ⟨x, _, h2⟩ := j.2 a ha e
      exact ⟨x, h2⟩
section
variable {K : PySem.W.Frag} {o : List Addr} {r sc : Addr} {H0 b H : Hp} {σ : L2.St} {ns c : List Int} {ds : List Ent} {te : TE} {D : Ends}
theorem g_row {i j : Nat} {x : Int} (h0 : ds[i]? = some (.raw (.ref r))) (hj : c[j]? = some x) : G (Md.rowX K o r H0 sc ns c) (tOp (rIx K) (tVar i) (tC (.int ((j + 1 : Nat) : Int)))) ds (.int x) := fun σ H Es Q q => by
  obtain ⟨y, e, hy⟩ := Es.sl i _ h0
  have hy : y = some (.ref r) := hy
  subst hy
  refine ⟨.ref r, e, .inl ⟨r, _, ((j + 1 : Nat) : Int), .int x, rfl, rfl, SqL.of Es.j.1.1, atI_nat (j := j + 1) ?_, q _ H (Xv.refl _ _) Es.j rfl⟩⟩
  rw [List.getElem?_cons_succ, List.getElem?_map, hj] <;> rfl
theorem g_rowLen {i : Nat} (h0 : ds[i]? = some (.raw (.ref r))) : G (Md.rowX K o r H0 sc ns c) (tCB (rLen K) (tCons (tOp (rIx K) (tVar i) (tC (.int 0))) tNil)) ds (.int (ns.length : Int)) := fun σ H Es Q q => by
  obtain ⟨y, e, hy⟩ := Es.sl i _ h0
  have hy : y = some (.ref r) := hy
  subst hy
  refine ⟨.ref r, e, .inl ⟨r, _, 0, .ref sc, rfl, rfl, SqL.of Es.j.1.1, atI_nat (j := 0) rfl, ⟨sc, _, rfl, .inl Es.j.1.2.sq, ?_⟩⟩⟩
  rw [List.length_map]
  exact q _ H (Xv.refl _ _) Es.j rfl
theorem g_rowCell {i : Nat} {k x : Int} (h0 : ds[i]? = some (.raw (.ref r))) (g : G (Md.rowX K o r H0 sc ns c) te ds (.int k)) (hk : 0 ≤ k) (hx : ns[k.toNat]? = some x) : G (Md.rowX K o r H0 sc ns c) (tOp (rIx K) (tOp (rIx K) (tVar i) (tC (.int 0))) te) ds (.int x) := fun σ H Es Q q => by
  obtain ⟨y, e, hy⟩ := Es.sl i _ h0
  have hy : y = some (.ref r) := hy
  subst hy
  refine ⟨.ref r, e, .inl ⟨r, _, 0, .ref sc, rfl, rfl, SqL.of Es.j.1.1, atI_nat (j := 0) rfl, ?_⟩⟩
  refine g σ H Es _ fun v H2 x2 j2 iv => ?_
  have iv : v = .int k := iv
  subst iv
  refine .inl ⟨sc, _, k, .int x, rfl, rfl, j2.1.2.sq, ?_, q _ H2 x2 j2 rfl⟩
  have := atI_nat (xs := ns.map V.int) (j := k.toNat) (v := .int x) (by rw [List.getElem?_map, hx] <;> rfl)
  rwa [show ((k.toNat : Nat) : Int) = k by omega] at this
/-- row[j + 1] = e -/
theorem s_setRow {i j : Nat} {x : Int} (hr : r ∈ o) (E : Env (Md.rowX K o r H0 sc ns c) b σ H ds) (h0 : ds[i]? = some (.raw (.ref r))) (hj : j < c.length) (g : G (Md.rowX K o r H0 sc ns c) te ds (.int x))
    (k : ∀ H', Env (Md.rowX K o r H0 sc ns (c.set j x)) b σ H' ds → D.nx σ H') : tAsg te (gSub (tVar i) (tC (.int ((j + 1 : Nat) : Int))) rSetL) D σ H :=
  g σ H E.s _ fun v H1 x1 j1 iv => by
    have iv : v = .int x := iv
    subst iv
    have E1 := E.step x1 j1
    obtain ⟨y, e, hy⟩ := E1.s.sl i _ h0
    have hy : y = some (.ref r) := hy
    subst hy
    refine ⟨.ref r, e, r, _, ((j + 1 : Nat) : Int), j + 1, rfl, rfl, j1.1.1, ?_, ?_⟩
    · unfold ixN
      rw [if_pos (by omega), if_pos (by rw [List.length_cons, List.length_map]; omega)]
      simp
    · have hoff : Off r H1 (upd H1 r (.lst ((V.ref sc :: c.map V.int).set (j + 1) (.int x)))) := fun a z n q => by
        rw [upd_ne n]
        exact q
      refine k _ ⟨⟨E1.s.len, fun l t ht => ?_, ⟨?_, j1.1.2.off j1.1.1 hoff⟩, fun a ha n => ?_⟩, E1.x.trans (hoff.v hr)⟩
      · obtain ⟨z, h1, h2⟩ := E1.s.sl l t ht
        exact ⟨z, h1, h2.map fun a y n q => ⟨n, hoff.v hr a y n q⟩⟩
      · rw [upd_same, List.set_cons_succ, List.map_set]
      · obtain ⟨z, h1, h2⟩ := j1.2 a ha n
        exact ⟨z, h1, hoff a z n h2⟩
end
def entsW (r : Addr) (as : List D) (n : Nat) : List Ent := .raw (.ref r) :: ents as (n - 1)
theorem sl_startW {m : Md} {H : Hp} {N : List Str} {vs : List V} {as : List D} {r : Addr} (hN : 1 ≤ N.length) (h : IsAll m.o H as vs) (j : m.J H) : Sl m (L2.start N (.ref r :: vs)) H (entsW r as N.length) := by
  have h1 := sl_start (N := List.replicate (N.length - 1) (Str.ofString "")) h j
  have e : L2.start N (V.ref r :: vs) = some (.ref r) :: L2.start (List.replicate (N.length - 1) (Str.ofString "")) vs := by
    unfold L2.start
    rw [List.map_cons, List.length_cons, List.length_replicate, show N.length - (vs.length + 1) = N.length - 1 - vs.length by omega] <;> rfl
  rw [e]
  rw [List.length_replicate] at h1
  refine ⟨?_, fun i t ht => ?_, j⟩
  · show _ + 1 = _ + 1
    rw [h1.len]
  · cases i with
    | zero =>
      cases ht
      exact ⟨_, rfl, rfl⟩
    | succ i => exact h1.sl i t ht
section
variable {P : Program} {w : World} {K : PySem.W.Frag} {mg : Str → Option Value} {base : Heap}
theorem fun_okW {x qual : Str} {st : Stmt} {f : Addr} {fd : FuncData} {N ps : List Str} {k : Nat} {Pre : List D → Prop} {R : List D → D → Prop} (F : Fun K x qual st f fd) (S : FnScope N ps (defScope st)) (hlen : ∀ as, Pre as → as.length + 1 = ps.length) (hN : 1 ≤ N.length)
    (hbody : ∀ (cdv : Value) (A : Around) (outer : List PySem.Env) (s : Shared) (H : Hp) (E : XK), Room k (A.deeper (envOfC qual (defScope st) s.heap.objs.size f cdv)) →
      ∃ t, PSs (cxOf CX0 P w K mg base N qual (defScope st) f cdv A outer s H E).nox (defBody st) t ∧
        ∀ (o : List Addr) (r : Addr) (H0 : Hp) (σ : L2.St) (as : List D) (Q : VK), r ∈ o → Pre as → Env (Md.rowM K o r H0) H0 σ H0 (entsW r as N.length) → (∀ d v H', R as d → Xv o H0 H' → (Md.rowM K o r H0).J H' → Is o H' d v → Q v H') → t { nx := fun _ H' => Q .non H', rt := Q } σ H0) :
    FnOk P w K mg base CX0 (k + 1) f fd ps (spW K Pre R) := by
  refine F.ok S (fun vs H Q E h => ?_) (fun cdv A outer s H vs Q E hr h => ?_)
  · obtain ⟨o, r, as, us, rfl, _, _, _, hI, hp, _⟩ := h
    rw [List.length_cons, hI.len, hlen as hp]
  · obtain ⟨o, r, as, us, rfl, hro, hl, hok, hI, hp, q⟩ := h
    obtain ⟨t, ht, hb⟩ := hbody cdv A outer s H E hr
    refine ⟨t, ht, ?_⟩
    have j0 : (Md.rowM K o r H).J H := ⟨hok, fun a ha _ => by
      obtain ⟨x, hx⟩ := hl a ha
      exact ⟨x, hx, hx⟩⟩
    refine hb o r H _ as Q hro hp (Sl.env (sl_startW (m := Md.rowM K o r H) hN hI j0)) fun d v H' hR x j i => q d v H' hR (fun a y n e => ?_) j.1 i
    by_cases ha : a ∈ o
    · obtain ⟨z, h1, h2⟩ := j.2 a ha n
      rw [e] at h1
      cases h1
      exact h2
    · exact x a y ha e
end
end Lk
set_option Elab.async false
set_option linter.all false
set_option maxRecDepth 100000
set_option maxHeartbeats 4000000
namespace Lk
open PySem PySem.Spec PyProof.Rows L2 RZ
open Evl (Ex)
section
variable {P : Program} {w : World} {K : PySem.W.Frag} {mg : Str → Option Value} {base : Heap}
/-! _law_taken, _law_signed, _law_pick -/
def Pre_law_taken (as : List D) : Prop := ∃ many : Int, as = [.int many] ∧ 1 ≤ many ∧ many ≤ 1000
def R_law_taken (as : List D) (d : D) : Prop := ∃ many x : Int, as = [.int many] ∧ d = .int x ∧ 0 ≤ x ∧ x < many
theorem len_law_taken {as : List D} (h : Pre_law_taken as) : as.length + 1 = 2 := by
  obtain ⟨x, rfl, _⟩ := h
  rfl
theorem fmod_b (x : Int) {m : Int} (h : 0 < m) : 0 ≤ x.fmod m ∧ x.fmod m < m := by
  rw [Int.fmod_eq_emod_of_nonneg x (by omega)]
  exact ⟨Int.emod_nonneg x (by omega), Int.emod_lt_of_pos x h⟩
theorem fdiv_b {x m : Int} (hx : 0 ≤ x) (h : 0 < m) : 0 ≤ x.fdiv m := by
  rw [Int.fdiv_eq_ediv_of_nonneg x (by omega)]
  exact Int.ediv_nonneg hx (by omega)
abbrev s_law_taken : Stmt := topS 24
theorem sc_law_taken : FnScope ["_law_row", "_law_many", "_law_found", "_law_cell"] ["_law_row", "_law_many"] (defScope s_law_taken) := ⟨rfl, rfl, rfl, by decide +kernel, rfl, by decide +kernel, by decide +kernel⟩
-- slots: 0 _law_row, 1 _law_many, 2 _law_found, 3 _law_cell
theorem ok_law_taken {f : Addr} {fd : FuncData} (F : Fun K "_law_taken" "_law_taken" s_law_taken f fd) (bd : Binds K fd ["_law_row", "_law_many"] []) (mgf : mg "_law_taken" = some (.ref f)) (T : Top mg)  :
    Has P w K mg base "_law_taken" ["_law_row", "_law_many"] 1 (spW K Pre_law_taken R_law_taken) := by
  have nd := sc_law_taken.nd
  refine ⟨f, fd, fun_okW F sc_law_taken (fun as h => len_law_taken h) (by decide) (fun cdv A outer s H E hr => ?_), mgf, F.kp, bd⟩
  refine ⟨_, (pss_cons (ps_if (pt_cmpR op_gt (pe_ix (ixk K) (pv 0) pe_int (fun _ _ => rfl)) pe_int (nomark _)) (pss_cons (ps_set (i := 2) nd rfl (Or.inl rfl) (pe_op op_modN (pe_callTy call_int1 (by rfl) T.int bt_int (pa_cons (pe_ix (ixk K) (pv 0) pe_int (fun _ _ => rfl)) pa_nil)) (pv 1)))
      (pss_cons (ps_asg (pe_op op_fdivA (pe_ix (ixk K) (pv 0) pe_int (fun _ _ => rfl)) (pv 1)) (pg_sub (pv 0) pe_int set_list))
      (pss_one (ps_ret (pv 2))))) pss_nil)
      (pss_cons (ps_asg (pe_op (opk_plus K) (pe_ix (ixk K) (pv 0) pe_int (fun _ _ => rfl)) pe_int) (pg_sub (pv 0) pe_int set_list))
      (pss_cons (ps_if (pt_cmpR op_gt (pe_ix (ixk K) (pv 0) pe_int (fun _ _ => rfl)) (pe_callB (ck_len K) (by rfl) T.len bt_len (pa_cons (pe_ix (ixk K) (pv 0) pe_int (fun _ _ => rfl)) pa_nil)) (nomark _)) (pss_cons (ps_asg (pe_op op_modN (pe_callTy call_int1 (by rfl) T.int bt_int (pa_cons (pe_op (opk_plus K) (pe_op (opk_times K) (pe_ix (ixk K) (pv 0) pe_int (fun _ _ => rfl)) pe_int) pe_int) pa_nil)) pe_int) (pg_sub (pv 0) pe_int set_list))
      (pss_one (ps_ret (pe_op op_modN (pe_callTy call_int1 (by rfl) T.int bt_int (pa_cons (pe_op op_fdivA (pe_ix (ixk K) (pv 0) pe_int (fun _ _ => rfl)) pe_int) pa_nil)) (pv 1))))) pss_nil)
      (pss_cons (ps_set (i := 3) nd rfl (Or.inl rfl) (pe_ix (ixk K) (pe_ix (ixk K) (pv 0) pe_int (fun _ _ => rfl)) (pe_op op_sub (pe_ix (ixk K) (pv 0) pe_int (fun _ _ => rfl)) pe_int) (fun _ _ => rfl)))
      (pss_cons (ps_asg (pe_op op_modN (pe_callTy call_int1 (by rfl) T.int bt_int (pa_cons (pe_op (opk_plus K) (pe_op (opk_plus K) (pe_op (opk_times K) (pe_ix (ixk K) (pv 0) pe_int (fun _ _ => rfl)) pe_int) (pv 3)) pe_int) pa_nil)) pe_int) (pg_sub (pv 0) pe_int set_list))
      (pss_cons (ps_if (pt_cmpR op_ge (pv 3) (pe_op op_pow pe_int pe_int) (nomark _)) (pss_one (ps_asg (pe_op op_fdivA (pv 3) (pv 1)) (pg_sub (pv 0) pe_int set_list))) pss_nil)
      (pss_one (ps_ret (pe_op op_modN (pe_callTy call_int1 (by rfl) T.int bt_int (pa_cons (pv 3) pa_nil)) (pv 1)))))))))), ?_⟩
  rintro o r H0 σ as Q hr ⟨many, rfl, h1, h2⟩ Ev q
  obtain ⟨⟨sc, ns, c, hI, i, st, rest, rfl, hi, hs1, hs2, hre⟩, hO⟩ := Ev.s.j
  have E0 : Env (Md.rowX K o r H0 sc ns [i, st, rest]) H0 σ H0 (entsW r [.int many] 4) := ⟨⟨Ev.s.len, Ev.s.sl, hI, hO⟩, Ev.x⟩
  have hm0 : many ≠ 0 := by omega
  -- the end: what is handed back
  have fin : ∀ (c : List Int) (te : TE) (x : Int) (σ' : L2.St) (H' : Hp) (ds : List Ent), CellsOk c → Env (Md.rowX K o r H0 sc ns c) H0 σ' H' ds → G (Md.rowX K o r H0 sc ns c) te ds (.int x) → 0 ≤ x → x < many → tRet te { nx := fun _ H' => Q .non H', rt := Q } σ' H' := fun c te x σ' H' ds hc E' g hx0 hx1 =>
    s_ret E' g fun v H2 xx jj iv => q (.int x) v H2 ⟨many, x, rfl, rfl, hx0, hx1⟩ xx ⟨⟨sc, ns, c, jj.1, hc⟩, jj.2⟩ iv
  refine s_when E0 (gt_test (g_op (g_row (j := 2) rfl rfl) g_int o2_gt)) (fun hc H2 E2 => ?_) (fun hc H2 E2 => ?_)
  · refine q_asg E2 (g_op (g_cb (ga_cons (g_row (j := 2) rfl rfl) ga_nil) on_int) (g_var rfl) (o2_mod hm0)) fun σ3 H3 E3 => ?_
    refine seq (s_setRow (j := 2) hr E3 rfl (by simp) (g_op (g_row (j := 2) rfl rfl) (g_var rfl) (o2_fdiv hm0 (by omega))) fun H4 E4 => ?_)
    exact fin _ _ _ _ _ _ ⟨i, st, _, rfl, hi, hs1, hs2, fdiv_b hre (by omega)⟩ E4 (g_var rfl) (fmod_b rest (by omega)).1 (fmod_b rest (by omega)).2
  refine seq (s_setRow (j := 0) hr E2 rfl (by simp) (g_op (g_row (j := 0) rfl rfl) g_int o2_addI) fun H3 E3 => ?_)
  refine s_when E3 (gt_test (g_op (g_row (j := 0) rfl rfl) (g_rowLen rfl) o2_gt)) (fun hc H4 E4 => ?_) (fun hc H4 E4 => ?_)
  · refine seq (s_setRow (j := 1) hr E4 rfl (by simp) (g_op (g_cb (ga_cons (g_op (g_op (g_row (j := 1) rfl rfl) g_int (o2_mul (.inl ⟨by omega, by omega⟩))) g_int o2_addI) ga_nil) on_int) g_int (o2_mod (by decide))) fun H5 E5 => ?_)
    have hb := fmod_b (st * 48271 + 11) (m := 2147483647) (by decide)
    exact fin _ _ _ _ _ _ ⟨i + 1, _, rest, rfl, by omega, hb.1, hb.2, hre⟩ E5 (g_op (g_cb (ga_cons (g_op (g_row (j := 1) rfl rfl) g_int (o2_fdiv (by decide) (by decide))) ga_nil) on_int) (g_var rfl) (o2_mod hm0)) (fmod_b _ (by omega)).1 (fmod_b _ (by omega)).2
  have hlt : ¬ (ns.length : Int) < i + 1 := by simpa using hc
  have hcell : ns[(i + 1 - 1).toNat]? = some (ns[(i + 1 - 1).toNat]'(by omega)) := List.getElem?_eq_getElem (by omega)
  generalize ns[(i + 1 - 1).toNat]'(by omega) = cell at hcell
  refine q_asg E4 (g_rowCell rfl (g_op (g_row (j := 0) rfl rfl) g_int o2_sub) (by omega) hcell) fun σ5 H5 E5 => ?_
  refine seq (s_setRow (j := 1) hr E5 rfl (by simp) (g_op (g_cb (ga_cons (g_op (g_op (g_op (g_row (j := 1) rfl rfl) g_int (o2_mul (.inl ⟨by omega, by omega⟩))) (g_var rfl) o2_addI) g_int o2_addI) ga_nil) on_int) g_int (o2_mod (by decide))) fun H6 E6 => ?_)
  have hb := fmod_b (st * 48271 + cell + 11) (m := 2147483647) (by decide)
  refine s_when E6 (gt_test (g_op (g_var rfl) (g_op g_int g_int (o2_I (C := CPow) ⟨by decide, by decide, by decide⟩)) o2_ge)) (fun hc2 H7 E7 => ?_) (fun hc2 H7 E7 => ?_)
  · have hce : (10 : Int) ^ (18 : Int).toNat ≤ cell := by simpa using hc2
    have hc0 : 0 ≤ cell := Int.le_trans (by decide) hce
    refine s_setRow (j := 2) hr E7 rfl (by simp) (g_op (g_var rfl) (g_var rfl) (o2_fdiv hm0 (by omega))) fun H8 E8 => ?_
    exact fin _ _ _ _ _ _ ⟨i + 1, _, _, rfl, by omega, hb.1, hb.2, fdiv_b hc0 (by omega)⟩ E8 (g_op (g_cb (ga_cons (g_var rfl) ga_nil) on_int) (g_var rfl) (o2_mod hm0)) (fmod_b _ (by omega)).1 (fmod_b _ (by omega)).2
  · exact fin _ _ _ _ _ _ ⟨i + 1, _, _, rfl, by omega, hb.1, hb.2, hre⟩ E7 (g_op (g_cb (ga_cons (g_var rfl) ga_nil) on_int) (g_var rfl) (o2_mod hm0)) (fmod_b _ (by omega)).1 (fmod_b _ (by omega)).2

def Pre_law_signed (as : List D) : Prop := ∃ most : Int, as = [.int most] ∧ 1 ≤ most ∧ most ≤ 3
def R_law_signed (as : List D) (d : D) : Prop := ∃ most x : Int, as = [.int most] ∧ d = .int x ∧ -most ≤ x ∧ x ≤ most
theorem len_law_signed {as : List D} (h : Pre_law_signed as) : as.length + 1 = 2 := by
  obtain ⟨x, rfl, _⟩ := h
  rfl
abbrev s_law_signed : Stmt := topS 25
theorem sc_law_signed : FnScope ["_law_row", "_law_most"] ["_law_row", "_law_most"] (defScope s_law_signed) := ⟨rfl, rfl, rfl, by decide +kernel, rfl, by decide +kernel, by decide +kernel⟩
-- slots: 0 _law_row, 1 _law_most
theorem ok_law_signed {f : Addr} {fd : FuncData} (F : Fun K "_law_signed" "_law_signed" s_law_signed f fd) (bd : Binds K fd ["_law_row", "_law_most"] []) (mgf : mg "_law_signed" = some (.ref f)) (T : Top mg) (h_law_taken : Has P w K mg base "_law_taken" ["_law_row", "_law_many"] 1 (spW K Pre_law_taken R_law_taken)) :
    Has P w K mg base "_law_signed" ["_law_row", "_law_most"] 2 (spW K Pre_law_signed R_law_signed) := by
  have nd := sc_law_signed.nd
  refine ⟨f, fd, fun_okW F sc_law_signed (fun as h => len_law_signed h) (by decide) (fun cdv A outer s H E hr => ?_), mgf, F.kp, bd⟩
  refine ⟨_, (pss_one (ps_ret (pe_op op_sub (pe_callH h_law_taken hr (by decide) (by rfl) (pa_cons (pv 0) (pa_cons (pe_op (opk_plus K) (pe_op (opk_times K) pe_int (pv 1)) pe_int) pa_nil))) (pv 1)))), ?_⟩
  rintro o r H0 σ as Q hro ⟨most, rfl, h1, h2⟩ Ev q
  have W := rowM_md (K := K) (H0 := H0) hro
  refine s_retX Ev (gx_op (P' := R_law_signed [.int most]) (gx_draw W rfl (ga_cons (g_op (g_op g_int (g_var rfl) (o2_mul (.inl ⟨by omega, by omega⟩))) g_int o2_addI) ga_nil) ⟨_, rfl, by omega, by omega⟩) (g_var rfl) ?_) q
  rintro d ⟨many, x, e, rfl, h3, h4⟩
  have e : [D.int (2 * most + 1)] = [D.int many] := e
  cases e
  exact ⟨.int (x - most), ⟨most, _, rfl, rfl, by omega, by omega⟩, o2_sub⟩
def Pre_law_pick (as : List D) : Prop := as = [lI [1, 2, 3]]
def R_law_pick (as : List D) (d : D) : Prop := ∃ x : Int, d = .int x ∧ 1 ≤ x ∧ x ≤ 3
theorem len_law_pick {as : List D} (h : Pre_law_pick as) : as.length + 1 = 2 := by
  rw [h] <;> rfl
abbrev s_law_pick : Stmt := topS 31
theorem sc_law_pick : FnScope ["_law_row", "_law_things"] ["_law_row", "_law_things"] (defScope s_law_pick) := ⟨rfl, rfl, rfl, by decide +kernel, rfl, by decide +kernel, by decide +kernel⟩
-- slots: 0 _law_row, 1 _law_things
theorem ok_law_pick {f : Addr} {fd : FuncData} (F : Fun K "_law_pick" "_law_pick" s_law_pick f fd) (bd : Binds K fd ["_law_row", "_law_things"] []) (mgf : mg "_law_pick" = some (.ref f)) (T : Top mg) (h_law_taken : Has P w K mg base "_law_taken" ["_law_row", "_law_many"] 1 (spW K Pre_law_taken R_law_taken)) :
    Has P w K mg base "_law_pick" ["_law_row", "_law_things"] 2 (spW K Pre_law_pick R_law_pick) := by
  have nd := sc_law_pick.nd
  refine ⟨f, fd, fun_okW F sc_law_pick (fun as h => len_law_pick h) (by decide) (fun cdv A outer s H E hr => ?_), mgf, F.kp, bd⟩
  refine ⟨_, (pss_one (ps_ret (pe_ix (ixk K) (pv 1) (pe_callH h_law_taken hr (by decide) (by rfl) (pa_cons (pv 0) (pa_cons (pe_callB (ck_len K) (by rfl) T.len bt_len (pa_cons (pv 1) pa_nil)) pa_nil))) (fun _ _ => rfl)))), ?_⟩
  rintro o r H0 σ as Q hro rfl Ev q
  have W := rowM_md (K := K) (H0 := H0) hro
  refine s_retX Ev (gx_op2 (P' := R_law_pick [lI [1, 2, 3]]) (g_var (d := lI [1, 2, 3]) rfl) (gx_draw W rfl (ga_cons (g_cb (ga_cons (g_var (d := lI [1, 2, 3]) rfl) ga_nil) onk_lenL) ga_nil) ⟨_, rfl, by simp, by simp⟩) ?_) q
  rintro d ⟨many, x, e, rfl, h3, h4⟩
  have e : [D.int (([1, 2, 3] : List Int).map D.int).length] = [D.int many] := e
  cases e
  have h5 : x = 0 ∨ x = 1 ∨ x = 2 := by
    simp at h4
    omega
  rcases h5 with rfl | rfl | rfl
  · exact ⟨.int 1, ⟨1, rfl, by decide, by decide⟩, o2_ixL (by decide) rfl⟩
  · exact ⟨.int 2, ⟨2, rfl, by decide, by decide⟩, o2_ixL (by decide) rfl⟩
  · exact ⟨.int 3, ⟨3, rfl, by decide, by decide⟩, o2_ixL (by decide) rfl⟩
end
end Lk
set_option Elab.async false
set_option linter.all false
set_option maxRecDepth 100000
set_option maxHeartbeats 4000000
namespace Lk
open PySem PySem.Spec PyProof.Rows L2 RZ
open Evl (Ex)
section
variable {P : Program} {w : World} {K : PySem.W.Frag} {mg : Str → Option Value} {base : Heap}
/-! _law_cone -/
theorem gcdL_dvd : ∀ (xs : List Int) (x : Int), x ∈ xs → ((gcdL xs : Nat) : Int) ∣ x := by
  have h : ∀ (xs : List Int) (c : Nat), ((xs.foldl (fun c x => Int.gcd (c : Int) x) c : Nat) : Int) ∣ (c : Int) ∧ ∀ x ∈ xs, ((xs.foldl (fun c x => Int.gcd (c : Int) x) c : Nat) : Int) ∣ x := by
    intro xs
    induction xs with
    | nil => intro c; exact ⟨Int.dvd_refl _, fun x hx => by simp at hx⟩
    | cons y xs ih =>
      intro c
      obtain ⟨h1, h2⟩ := ih (Int.gcd (c : Int) y)
      rw [List.foldl_cons]
      refine ⟨Int.dvd_trans h1 (Int.gcd_dvd_left ..), fun x hx => ?_⟩
      rcases List.mem_cons.mp hx with rfl | hx
      · exact Int.dvd_trans h1 (Int.gcd_dvd_right ..)
      · exact h2 x hx
  exact fun xs => (h xs 0).2
theorem gcdL_great {k : Nat} : ∀ (xs : List Int), (∀ x ∈ xs, (k : Int) ∣ x) → k ∣ gcdL xs := by
  have h : ∀ (xs : List Int) (c : Nat), k ∣ c → (∀ x ∈ xs, (k : Int) ∣ x) → k ∣ xs.foldl (fun c x => Int.gcd (c : Int) x) c := by
    intro xs
    induction xs with
    | nil => intro c hc _; exact hc
    | cons y xs ih =>
      intro c hc hx
      rw [List.foldl_cons]
      refine ih _ ?_ fun x h => hx x (List.mem_cons_of_mem _ h)
      exact Int.dvd_gcd (Int.ofNat_dvd.mpr hc) (hx y List.mem_cons_self)
  exact fun xs hx => h xs 0 (Nat.dvd_zero k) hx
theorem prim_of {xs : List Int} (h : gcdL xs ≤ 1) : prim xs = xs := by
  unfold prim
  rw [if_neg (by omega)]
theorem fdiv_exact {y : Int} {g : Nat} (hg : 0 < g) (h : (g : Int) ∣ y) : ∃ q, y = (g : Int) * q ∧ y.fdiv (g : Int) = q := by
  obtain ⟨q, rfl⟩ := h
  exact ⟨q, rfl, Int.mul_fdiv_cancel_left q (by omega)⟩
theorem prim_div {ys : List Int} (hg : 0 < gcdL ys) : prim (ys.map fun x => x.fdiv (gcdL ys : Int)) = ys.map fun x => x.fdiv (gcdL ys : Int) := by
  refine prim_of ?_
  generalize hh : gcdL (ys.map fun x => x.fdiv (gcdL ys : Int)) = h
  have h1 : (h * gcdL ys) ∣ gcdL ys := gcdL_great ys fun x hx => by
    obtain ⟨q, e1, e2⟩ := fdiv_exact hg (gcdL_dvd ys x hx)
    have h2 := gcdL_dvd (ys.map fun x => x.fdiv (gcdL ys : Int)) q (List.mem_map.mpr ⟨x, hx, e2⟩)
    rw [hh] at h2
    obtain ⟨t, rfl⟩ := h2
    exact ⟨t, by rw [e1, Int.natCast_mul]; simp [Int.mul_left_comm, Int.mul_comm, Int.mul_assoc]⟩
  have h2 := Nat.le_of_dvd hg h1
  cases h with
  | zero => omega
  | succ h =>
    cases h with
    | zero => omega
    | succ h =>
      exfalso
      rw [show h + 1 + 1 = h + 2 from rfl, Nat.add_mul] at h2
      omega
theorem div_b {ys : List Int} (hg : 0 < gcdL ys) {B : Nat} (hb : ∀ x ∈ ys, x.natAbs ≤ B) : ∀ x ∈ ys.map fun x => x.fdiv (gcdL ys : Int), x.natAbs ≤ B := fun x hx => by
  obtain ⟨y, hy, rfl⟩ := List.mem_map.mp hx
  obtain ⟨q, e1, e2⟩ := fdiv_exact hg (gcdL_dvd ys y hy)
  have h1 := hb y hy
  rw [e2]
  rw [e1, Int.natAbs_mul, Int.natAbs_natCast] at h1
  have : 1 * q.natAbs ≤ gcdL ys * q.natAbs := Nat.mul_le_mul_right _ hg
  omega
theorem prim_ones : ∀ n ∈ [1, 2, 3], prim (List.replicate n 1) = List.replicate n 1 := by decide +kernel
theorem minors_full {rows : List (List Int)} (h : Sq rows) (h1 : 1 ≤ rows.length) : minors rows rows.length = (det rows).natAbs := by
  have s1 : subs 1 1 = [[0]] := by decide +kernel
  have s2 : subs 2 2 = [[0, 1]] := by decide +kernel
  have s3 : subs 3 3 = [[0, 1, 2]] := by decide +kernel
  rcases sq_cases h with rfl | ⟨a, rfl⟩ | ⟨a, b, c, d, rfl⟩ | ⟨a, b, c, d, e, f, g, h, i, rfl⟩
  · simp at h1
  · simp [minors, minIn, s1, pickM]
  · simp [minors, minIn, s2, pickM]
  · simp [minors, minIn, s3, pickM]
theorem LcR.all {α : Type} {P : α → D → Prop} {xs : List α} {ys : List D} (h : LcR (fun _ c => c = true) P xs ys) : ys.length = xs.length ∧ ∀ y ∈ ys, ∃ x, P x y := by
  induction h with
  | nil => exact ⟨rfl, fun y hy => by simp at hy⟩
  | skip h t ih => cases t
  | take h t p ih =>
    refine ⟨by rw [List.length_append, List.length_append, ih.1] <;> rfl, fun y hy => ?_⟩
    rcases List.mem_append.mp hy with z | z
    · exact ih.2 y z
    · rw [List.mem_singleton.mp z]
      exact ⟨_, p⟩
theorem LcR.ints {α : Type} {xs : List α} {ys : List D} {lo hi : Int} (h : LcR (fun _ c => c = true) (fun _ y => ∃ x : Int, y = .int x ∧ lo ≤ x ∧ x ≤ hi) xs ys) : ∃ zs : List Int, ys = zs.map D.int ∧ zs.length = xs.length ∧ ∀ x ∈ zs, lo ≤ x ∧ x ≤ hi := by
  obtain ⟨hl, ha⟩ := h.all
  clear h
  have g : ∀ ys : List D, (∀ y ∈ ys, ∃ x : Int, y = .int x ∧ lo ≤ x ∧ x ≤ hi) → ∃ zs : List Int, ys = zs.map D.int ∧ ∀ x ∈ zs, lo ≤ x ∧ x ≤ hi := by
    intro ys
    induction ys with
    | nil => intro _; exact ⟨[], rfl, fun x hx => by simp at hx⟩
    | cons y ys ih =>
      intro h
      obtain ⟨x, rfl, hx⟩ := h y List.mem_cons_self
      obtain ⟨zs, rfl, hz⟩ := ih fun y hy => h y (List.mem_cons_of_mem _ hy)
      refine ⟨x :: zs, rfl, fun z h => ?_⟩
      rcases List.mem_cons.mp h with rfl | h
      · exact hx
      · exact hz z h
  obtain ⟨zs, rfl, hz⟩ := g ys fun y hy => by
    obtain ⟨_, h⟩ := ha y hy
    exact h
  exact ⟨zs, rfl, by rw [← hl, List.length_map], hz⟩
theorem LcR.sub {T : Int → Bool → Prop} {xs : List Int} {ys : List D} (h : LcR T (fun x y => y = .int x) xs ys) : ∃ zs : List Int, ys = zs.map D.int ∧ zs.Sublist xs := by
  induction h with
  | nil => exact ⟨[], rfl, List.Sublist.refl _⟩
  | skip h t ih =>
    obtain ⟨zs, rfl, hs⟩ := ih
    exact ⟨zs, rfl, hs.trans (List.sublist_append_left _ _)⟩
  | take h t p ih =>
    obtain ⟨zs, rfl, hs⟩ := ih
    subst p
    exact ⟨zs ++ [_], by rw [List.map_append] <;> rfl, hs.append (List.Sublist.refl _)⟩
theorem gtx_test {m : Md} {te : TE} {ds : List Ent} {P : D → Prop} {T : Bool → Prop} (g : GX m te ds P) (h : ∀ d, P d → ∃ c, d = .bl c ∧ T c) : GTX m (tTest te) ds T := fun σ H E Q q => g σ H E _ fun d v H2 hp x j i => by
  obtain ⟨c, rfl, hc⟩ := h d hp
  exact ⟨c, i, q c H2 hc x j⟩
def GAX (m : Md) (ta : TA) (ds : List Ent) (P : List D → Prop) : Prop := ∀ σ H, Sl m σ H ds → ∀ Q : List V → Hp → Prop, (∀ as vs H2, P as → Xv m.o H H2 → m.J H2 → IsAll m.o H2 as vs → Q vs H2) → ta σ H Q
theorem gax_one {m : Md} {ds : List Ent} {ta : TE} {P : D → Prop} (ha : GX m ta ds P) : GAX m (tCons ta tNil) ds (fun as => ∃ d, as = [d] ∧ P d) := fun σ H E Q q => ha σ H E _ fun d v H2 hp x j i => q [d] [v] H2 ⟨d, rfl, hp⟩ x j (IsAll.one i)
theorem gax_cons {m : Md} {ds : List Ent} {ta : TE} {tr : TA} {d : D} {P : List D → Prop} (ha : G m ta ds d) (hr : GAX m tr ds P) : GAX m (tCons ta tr) ds (fun as => ∃ t, as = d :: t ∧ P t) := fun σ H E Q q =>
  ha σ H E _ fun x H1 x1 j1 i1 => hr σ H1 (E.step x1 j1) _ fun as xs H2 hp x2 j2 i2 => q (d :: as) (x :: xs) H2 ⟨as, rfl, hp⟩ (x1.trans x2) j2 ⟨x, xs, rfl, i1.mono x2, i2⟩
theorem gx_tup {m : Md} {ds : List Ent} {tr : TA} {P : List D → Prop} (ha : GAX m tr ds P) (hz : ∀ as, P as → as.length ≤ 100000) : GX m (tTup tr) ds (fun d => ∃ as, d = .tup as ∧ P as) := fun σ H E Q q =>
  ha σ H E _ fun as xs H1 hp x1 j1 i1 => ⟨by rw [i1.len]; exact Nat.le_trans (hz as hp) (by decide), fun p hp2 => q (.tup as) _ _ ⟨as, rfl, hp⟩ (x1.trans (Ex.new hp2).v) (m.jx _ _ (Ex.new hp2) j1) ⟨p, xs, rfl, nin (m.jl _ j1) hp2, upd_same, i1.mono (Ex.new hp2).v⟩⟩
theorem gx_cb1 {m : Md} {ds : List Ent} {ta : TE} {r : List V → Hp → VK → Prop} {P P' : D → Prop} (ha : GX m ta ds P) (hr : ∀ d, P d → ∃ d', P' d' ∧ ON r [d] d') : GX m (tCB r (tCons ta tNil)) ds P' := fun σ H E Q q =>
  ha σ H E _ fun d v H1 hp x1 j1 i1 => by
    obtain ⟨d', hp', h⟩ := hr d hp
    exact h m.o H1 [v] (m.jl _ j1) (IsAll.one i1) Q fun v3 H3 x3 i3 => q d' v3 H3 hp' (x1.trans x3.v) (m.jx _ _ x3 j1) i3
theorem s_whenJ {m : Md} {b H : Hp} {σ : L2.St} {ds : List Ent} {tt : TT} {DD : Ends} {c : Bool} {tu tz : TS} (J : List Ent → Prop) (E : Env m b σ H ds) (g : GT m tt ds c) (h1 : c = true → ∀ H' (N : L2.St → Hp → Prop), Env m b σ H' ds → (∀ σ2 H2 ds2, J ds2 → Env m b σ2 H2 ds2 → N σ2 H2) → tu { DD with nx := N } σ H')
    (h2 : c = false → J ds) (k : ∀ σ' H' ds', J ds' → Env m b σ' H' ds' → tz DD σ' H') : tSeq (tIfS tt tu tNext) tz DD σ H :=
  s_when E g (fun hc H' E' => h1 hc H' _ E' k) (fun hc H' E' => k _ _ _ (h2 hc) E')
def unitV (n : Nat) : List (List Int) := (rg 0 n).map fun k => (rg 0 n).map fun a => if a = k then 1 else 0
theorem unit_ok : ∀ n ∈ [1, 2, 3], (unitV n).length = n ∧ (∀ v ∈ unitV n, v.length = n ∧ prim v = v ∧ ∀ x ∈ v, -3 ≤ x ∧ x ≤ 3) ∧ det (unitV n) ≠ 0 := by decide +kernel
/-- what is found so far -/
structure FndOk (n : Nat) (vs : List (List Int)) : Prop where
  le : vs.length ≤ n
  v : ∀ v ∈ vs, v.length = n ∧ prim v = v ∧ ∀ x ∈ v, -3 ≤ x ∧ x ≤ 3
  d : vs.length = n → det vs ≠ 0
def Pre_law_cone (as : List D) : Prop := ∃ far : Int, as = [.int far] ∧ 1 ≤ far ∧ far ≤ 3
def R_law_cone (as : List D) (d : D) : Prop := ∃ apex vs pl, d = coneD apex vs pl ∧ ConeOk apex vs pl
theorem len_law_cone {as : List D} (h : Pre_law_cone as) : as.length + 1 = 2 := by
  obtain ⟨x, rfl, _⟩ := h
  rfl
abbrev s_law_cone : Stmt := topS 30
theorem sc_law_cone : FnScope ["_law_row", "_law_far", "_law_size", "_law_found", "_law_turn", "_law_one", "_law_k", "_law_common", "_law_x", "_law_more", "_law_good", "_law_way", "_law_at", "_law_apex"] ["_law_row", "_law_far"] (defScope s_law_cone) := ⟨rfl, rfl, rfl, by decide +kernel, rfl, by decide +kernel, by decide +kernel⟩
-- slots: 0 _law_row*, 1 _law_far*, 2 _law_size*, 3 _law_found, 4 _law_turn, 5 _law_one, 6 _law_k, 7 _law_common*, 8 _law_x, 9 _law_more, 10 _law_good, 11 _law_way, 12 _law_at, 13 _law_apex
theorem ok_law_cone {f : Addr} {fd : FuncData} (F : Fun K "_law_cone" "_law_cone" s_law_cone f fd) (bd : Binds K fd ["_law_row", "_law_far"] []) (mgf : mg "_law_cone" = some (.ref f)) (T : Top mg) (h_law_taken : Has P w K mg base "_law_taken" ["_law_row", "_law_many"] 1 (spW K Pre_law_taken R_law_taken)) (h_law_signed : Has P w K mg base "_law_signed" ["_law_row", "_law_most"] 2 (spW K Pre_law_signed R_law_signed)) (h_law_gcd : Has P w K mg base "_law_gcd" ["_law_one", "_law_other"] 1 (spR R_law_gcd)) (h_law_minors : Has P w K mg base "_law_minors" ["_law_rows", "_law_size"] 5 (spR R_law_minors)) :
    Has P w K mg base "_law_cone" ["_law_row", "_law_far"] 6 (spW K Pre_law_cone R_law_cone) := by
  have nd := sc_law_cone.nd
  refine ⟨f, fd, fun_okW F sc_law_cone (fun as h => len_law_cone h) (by decide) (fun cdv A outer s H E hr => ?_), mgf, F.kp, bd⟩
  refine ⟨_, (pss_cons (ps_set (i := 2) nd rfl (Or.inr rfl) (pe_op (opk_plus K) pe_int (pe_callH h_law_taken hr (by decide) (by rfl) (pa_cons (pv 0) (pa_cons pe_int pa_nil)))))
      (pss_cons (ps_set (i := 3) nd rfl (Or.inl rfl) (pe_lst pa_nil))
      (pss_cons (ps_for PassesOwn.never rfl (pi_range1 (by rfl) T.range (pa_cons (pe_op (opk_times K) pe_int (pv 2)) pa_nil)) (pg_name (i := 4) nd rfl (Or.inl rfl)) (pss_cons (ps_setLc (i := 5) (own := [("_law_k", 6)]) (g := gName 6) (by rfl) nd rfl rfl (sw_true rfl rfl rfl (by decide +kernel)) (pi_range1 (by rfl) T.range (pa_cons (pv 2) pa_nil)) (blkOk_by (own := [("_law_k", 6)]) (by kernel_rfl)) (fun _ _ _ _ _ => (pg_name (i := 6) nd rfl (Or.inl rfl))) (fun _ _ _ _ _ => pts_nil) (fun _ _ _ _ _ => (pe_callH h_law_signed hr (by decide) (by rfl) (pa_cons (pv 0) (pa_cons (pv 1) pa_nil)))))
      (pss_cons (ps_set (i := 7) nd rfl (Or.inr rfl) pe_int)
      (pss_cons (ps_for PassesOwn.never rfl (pik_list K (pv 5)) (pg_name (i := 8) nd rfl (Or.inl rfl)) (pss_one (ps_set (i := 7) nd rfl (Or.inr rfl) (pe_callH h_law_gcd hr (by decide) (by rfl) (pa_cons (pv 7) (pa_cons (pv 8) pa_nil))))))
      (pss_cons (ps_set (i := 5) nd rfl (Or.inl rfl) (pe_ifExp (pt_cmpR op_gt (pv 7) pe_int (nomark _)) (pe_callTy (ck_tuple K) (by rfl) T.tuple bt_tuple (pa_cons (pe_lc (own := [("_law_x", 8)]) (g := gName 8) (by rfl) nd (pik_list K (pv 5)) (blkOk_by (own := [("_law_x", 8)]) (by kernel_rfl)) (fun _ _ _ _ _ => (pg_name (i := 8) nd rfl (Or.inl rfl))) (fun _ _ _ _ _ => pts_nil) (fun _ _ _ _ _ => (pe_op op_fdivA (pv 8) (pv 7)))) pa_nil)) (pe_op (opk_times K) (pe_tup (pa_cons pe_int pa_nil)) (pv 2))))
      (pss_cons (ps_set (i := 9) nd rfl (Or.inl rfl) (pe_op (opk_plus K) (pv 3) (pe_lst (pa_cons (pv 5) pa_nil))))
      (pss_cons (ps_set (i := 10) nd rfl (Or.inl rfl) (pe_and (pe_cmpR op_lt (pe_callB (ck_len K) (by rfl) T.len bt_len (pa_cons (pv 3) pa_nil)) (pv 2) (nomark _)) (pe_one (pe_cmpR (opk_ne K (hu64 hr)) (pe_callH h_law_minors hr (by decide) (by rfl) (pa_cons (pe_lc (own := [("_law_way", 11)]) (g := gName 11) (by rfl) nd (pik_list K (pv 9)) (blkOk_by (own := [("_law_way", 11)]) (by kernel_rfl)) (fun _ _ _ _ _ => (pg_name (i := 11) nd rfl (Or.inl rfl))) (fun _ _ _ _ _ => pts_nil) (fun _ _ _ _ _ => (pe_callTy (ck_list K) (by rfl) T.list bt_list (pa_cons (pv 11) pa_nil)))) (pa_cons (pe_callB (ck_len K) (by rfl) T.len bt_len (pa_cons (pv 9) pa_nil)) pa_nil))) pe_int (nomark _)))))
      (pss_one (ps_set (i := 3) nd rfl (Or.inl rfl) (pe_ifExp (pt_val (pv 10)) (pv 9) (pv 3)))))))))))
      (pss_cons (ps_if (pt_cmpR op_lt (pe_callB (ck_len K) (by rfl) T.len bt_len (pa_cons (pv 3) pa_nil)) (pv 2) (nomark _)) (pss_one (ps_setLc (i := 3) (own := [("_law_k", 6)]) (g := gName 6) (by rfl) nd rfl rfl (sw_true rfl rfl rfl (by decide +kernel)) (pi_range1 (by rfl) T.range (pa_cons (pv 2) pa_nil)) (blkOk_by (own := [("_law_k", 6)]) (by kernel_rfl)) (fun _ _ _ _ _ => (pg_name (i := 6) nd rfl (Or.inr rfl))) (fun _ _ _ _ _ => pts_nil) (fun _ _ _ _ _ => (pe_callTy (ck_tuple K) (by rfl) T.tuple bt_tuple (pa_cons (pe_lc (own := [("_law_at", 12)]) (g := gName 12) (by rfl) nd (pi_range1 (by rfl) T.range (pa_cons (pv 2) pa_nil)) (blkOk_by (own := [("_law_at", 12)]) (by kernel_rfl)) (fun _ _ _ _ _ => (pg_name (i := 12) nd rfl (Or.inl rfl))) (fun _ _ _ _ _ => pts_nil) (fun _ _ _ _ _ => (pe_ifExp (pt_cmpR (opk_eq K (hu64 hr)) (pv 12) (pv 6) (nomark _)) pe_int pe_int))) pa_nil))))) pss_nil)
      (pss_cons (ps_set (i := 13) nd rfl (Or.inl rfl) (pe_callTy (ck_tuple K) (by rfl) T.tuple bt_tuple (pa_cons (pe_lc (own := [("_law_k", 6)]) (g := gName 6) (by rfl) nd (pi_range1 (by rfl) T.range (pa_cons (pv 2) pa_nil)) (blkOk_by (own := [("_law_k", 6)]) (by kernel_rfl)) (fun _ _ _ _ _ => (pg_name (i := 6) nd rfl (Or.inl rfl))) (fun _ _ _ _ _ => pts_nil) (fun _ _ _ _ _ => (pe_callH h_law_signed hr (by decide) (by rfl) (pa_cons (pv 0) (pa_cons pe_int pa_nil))))) pa_nil)))
      (pss_one (ps_ret (pe_tup (pa_cons (pv 13) (pa_cons (pe_callTy (ck_tuple K) (by rfl) T.tuple bt_tuple (pa_cons (pv 3) pa_nil)) (pa_cons (pe_callTy (ck_tuple K) (by rfl) T.tuple bt_tuple (pa_cons (pe_lc (own := [("_law_k", 6)]) (g := gName 6) (by rfl) nd (pi_range1 (by rfl) T.range (pa_cons (pv 2) pa_nil)) (blkOk_by (own := [("_law_k", 6)]) (by kernel_rfl)) (fun _ _ _ _ _ => (pg_name (i := 6) nd rfl (Or.inl rfl))) (fun _ _ _ _ _ => (pts_one (pt_cmpR (opk_eq K (hu64 hr)) (pe_callH h_law_taken hr (by decide) (by rfl) (pa_cons (pv 0) (pa_cons pe_int pa_nil))) pe_int (nomark _)))) (fun _ _ _ _ _ => (pv 6))) pa_nil)) pa_nil))))))))))), ?_⟩
  rintro o r H0 σ as Q hro ⟨far, rfl, hf1, hf2⟩ Ev q
  have W := rowM_md (K := K) (H0 := H0) hro
  -- size = 1 + a draw
  refine q_asgX Ev (gx_op2 (P' := fun d => ∃ n : Nat, d = .int (n : Int) ∧ 1 ≤ n ∧ n ≤ 3) g_int (gx_draw W rfl (ga_cons g_int ga_nil) ⟨3, rfl, by decide, by decide⟩) ?_) fun d σ1 H1 hd E1 => ?_
  · rintro d ⟨many, x, e, rfl, h3, h4⟩
    have e : [D.int 3] = [D.int many] := e
    cases e
    refine ⟨.int (1 + x), ⟨(1 + x).toNat, ?_, by omega, by omega⟩, o2_addI⟩
    rw [show (((1 + x).toNat : Nat) : Int) = 1 + x by omega]
  obtain ⟨n, rfl, n1, n3⟩ := hd
  have nmem : n ∈ [1, 2, 3] := by
    simp
    omega
  refine q_asg E1 (g_lst ga_nil (by simp)) fun σ2 H2 E2 => ?_
  refine q_for (i0 := 4) (zs := rg 0 (4 * (n : Int)).toNat) (e := D.int) (u := fun z ds => ds.set 4 (.im (.int z))) E2 (gi_rng1 (ga_cons (g_op g_int (g_var rfl) (o2_mul (.inl ⟨by omega, by omega⟩))) ga_nil) (by omega)) (fun z _ => tg_name)
    (fun i ds' => ∃ vs, FndOk n vs ∧ ∃ e4 e5 e6 e7 e8 e9 e10 e11 e12 e13, ds' = [.raw (.ref r), .im (.int far), .im (.int (n : Int)), .im (.lst (vs.map tI)), e4, e5, e6, e7, e8, e9, e10, e11, e12, e13]) ⟨[], ⟨by simp, fun v hv => by simp at hv, fun h => by simp at h; omega⟩, _, _, _, _, _, _, _, _, _, _, rfl⟩ ?_ ?_
  · rintro bb k z ds' σ' H' N hz ⟨vs, hF, e4, e5, e6, e7, e8, e9, e10, e11, e12, e13, rfl⟩ E' hN
    -- one = the draws
    refine q_asgX E' (gx_lc (zs := rg 0 n) (e := D.int) (u := fun z ds => ds.set 6 (.im (.int z))) (T := fun _ c => c = true) (P := fun _ y => ∃ x : Int, y = .int x ∧ -far ≤ x ∧ x ≤ far) ((gi_rng1 (ga_cons (g_var rfl) ga_nil) (by omega)).is (by rw [Int.toNat_natCast])) (by rw [rg_len]; omega) (fun z _ => tg_name)
      (fun p acc z _ _ => gt_yes.x) (fun p acc z np _ _ => (gx_draw (W.ow np) rfl (ga_cons (g_var rfl) ga_nil) ⟨far, rfl, hf1, hf2⟩).imp ?_)) fun d σ3 H3 hd E3 => ?_
    · rintro d ⟨most, x, e, rfl, h3, h4⟩
      have e : [D.int far] = [D.int most] := e
      cases e
      exact ⟨x, rfl, h3, h4⟩
    obtain ⟨ys, rfl, hL⟩ := hd
    obtain ⟨one, rfl, ho1, ho2⟩ := hL.ints
    rw [rg_len] at ho1
    -- common
    refine q_asg E3 g_int fun σ4 H4 E4 => ?_
    refine q_for (i0 := 8) (zs := one) (e := D.int) (u := fun z ds => ds.set 8 (.im (.int z))) E4 (gi_list (g_var rfl)) (fun z _ => tg_name)
      (fun i ds' => ∃ e4 e6 e8 e9 e10 e11 e12 e13, ds' = [.raw (.ref r), .im (.int far), .im (.int (n : Int)), .im (.lst (vs.map tI)), e4, .im (lI one), e6, .im (.int (gcdL (one.take i) : Nat)), e8, e9, e10, e11, e12, e13]) ⟨_, _, _, _, _, _, _, _, rfl⟩ ?_ ?_
    · rintro b2 i x ds2 σ5 H5 N2 hx ⟨e4, e6, e8, e9, e10, e11, e12, e13, rfl⟩ E5 hN2
      refine s_asg E5 (g_call (ga_cons (g_var rfl) (ga_cons (g_var rfl) ga_nil)) ⟨_, _, rfl, rfl⟩) fun σ6 H6 E6 => hN2 _ σ6 H6 ?_ E6
      have e1 : gcdL (one.take (i + 1)) = Int.gcd (gcdL (one.take i) : Int) x := by
        rw [List.take_add_one, hx]
        exact gcdL_snoc _ _
      rw [e1]
      exact ⟨_, _, _, _, _, _, _, _, rfl⟩
    · rintro ds2 σ5 H5 ⟨e4, e6, e8, e9, e10, e11, e12, e13, rfl⟩ E5
      rw [List.take_length] at E5
      have hob : ∀ x ∈ one, x.natAbs ≤ 3 := fun x hx => by
        have := ho2 x hx
        omega
      have hgl : gcdL one ≤ 3 := gcdL_le 3 one hob
      -- one = its primitive
      generalize hv : (if 0 < gcdL one then one.map (fun x => x.fdiv (gcdL one : Int)) else List.replicate n 1) = v
      have hvl : v.length = n ∧ prim v = v ∧ ∀ x ∈ v, -3 ≤ x ∧ x ≤ 3 := by
        rw [← hv]
        split
        · next h =>
          refine ⟨by rw [List.length_map, ho1], prim_div h, fun x hx => ?_⟩
          have := div_b h hob x hx
          omega
        · refine ⟨List.length_replicate, prim_ones n nmem, fun x hx => ?_⟩
          have := List.eq_of_mem_replicate hx
          omega
      refine q_asg E5 (g_if (d := tI v) (gt_test (g_op (g_var rfl) g_int o2_gt)) (fun hc => ?_) (fun hc => ?_)) fun σ6 H6 E6 => ?_
      · have hc' : 0 < gcdL one := by
          have : (0 : Int) < (gcdL one : Int) := by simpa using hc
          omega
        rw [if_pos hc'] at hv
        refine G.is (g_cb (ga_cons (g_lcA (zs := one) (e := D.int) (u := fun z ds => ds.set 8 (.im (.int z))) (fun x => D.int (x.fdiv (gcdL one : Int))) (gi_list (g_var rfl)) (by omega) (fun z _ => tg_name) (fun p acc z _ => g_op (g_var rfl) (g_var rfl) (o2_fdiv (by omega) (by omega)))) ga_nil) onk_tupL) ?_
        show D.tup _ = D.tup _
        rw [← hv, List.map_map] <;> rfl
      · have hc' : ¬ 0 < gcdL one := by
          have : ¬ (0 : Int) < (gcdL one : Int) := by simpa using hc
          omega
        rw [if_neg hc'] at hv
        refine G.is (g_op (g_tup (ga_cons g_int ga_nil) (by simp)) (g_var rfl) (o2_rep (by omega) (by omega))) ?_
        show D.tup _ = D.tup _
        rw [← hv, Int.toNat_natCast, List.map_replicate]
      -- more, good, found
      refine q_asg E6 (g_op (g_var rfl) (g_lst (ga_cons (g_var rfl) ga_nil) (by simp)) (o2_addL (by have := hF.le; simp; omega))) fun σ7 H7 E7 => ?_
      have em : vs.map tI ++ [tI v] = (vs ++ [v]).map tI := by rw [List.map_append] <;> rfl
      rw [em] at E7
      have hrows : ∀ r ∈ vs ++ [v], r.length = n ∧ ∀ x ∈ r, x.natAbs ≤ 1000 := fun r hr => by
        rcases List.mem_append.mp hr with z | z
        · refine ⟨(hF.v r z).1, fun x hx => ?_⟩
          have := (hF.v r z).2.2 x hx
          omega
        · rw [List.mem_singleton.mp z]
          refine ⟨hvl.1, fun x hx => ?_⟩
          have := hvl.2.2 x hx
          omega
      have hlm : (vs ++ [v]).length = vs.length + 1 := by rw [List.length_append] <;> rfl
      have hle := hF.le
      refine q_asg E7 (g_andV (g_op (G.is (g_cb (ga_cons (g_var rfl) ga_nil) onk_lenL) (by rw [List.length_map])) (g_var rfl) o2_lt) fun hc => g_op (g_call (ga_cons (g_lcA (zs := vs ++ [v]) (e := tI) (u := fun z ds => ds.set 11 (.im (tI z))) lI (gi_list (g_var rfl)) (by omega) (fun z _ => tg_name) (fun p acc z _ => g_cb (ga_cons (g_var rfl) ga_nil) onk_listT))
          (ga_cons (G.is (g_cb (ga_cons (g_var rfl) ga_nil) onk_lenL) (by rw [List.length_map])) ga_nil)) ⟨vs ++ [v], n, rfl, by omega, ?_, n3, hrows, rfl⟩) g_int o2_neI) fun σ8 H8 E8 => ?_
      · have : (vs.length : Int) < (n : Int) := of_decide_eq_true hc
        omega
      generalize hgood : (decide ((vs.length : Int) < (n : Int)) && !(((minors (vs ++ [v]) n : Nat) : Int) == 0)) = good at E8
      refine s_asg E8 (g_if (d := .lst ((if good = true then vs ++ [v] else vs).map tI)) (gt_B (g_var rfl)) (fun hc => ?_) (fun hc => ?_)) fun σ9 H9 E9 => hN _ σ9 H9 ⟨if good = true then vs ++ [v] else vs, ?_, _, _, _, _, _, _, _, _, _, _, rfl⟩ E9
      · rw [if_pos hc]
        exact g_var rfl
      · rw [if_neg (by rw [hc]; decide)]
        exact g_var rfl
      · split
        · next hg =>
          rw [hg, Bool.and_eq_true] at hgood
          have h1 : (vs.length : Int) < (n : Int) := of_decide_eq_true hgood.1
          refine ⟨by omega, fun u hu => ?_, fun hn => ?_⟩
          · rcases List.mem_append.mp hu with z | z
            · exact hF.v u z
            · rw [List.mem_singleton.mp z]
              exact hvl
          · have hS : Sq (vs ++ [v]) := ⟨by omega, fun r hr => by rw [hn]; exact hrows r hr⟩
            have hmf := minors_full hS (by omega)
            rw [hn] at hmf
            have h2 := hgood.2
            rw [hmf] at h2
            intro hd
            rw [hd] at h2
            simp at h2
        · exact hF
  · rintro ds' σ3 H3 ⟨vs, hF, e4, e5, e6, e7, e8, e9, e10, e11, e12, e13, rfl⟩ E3
    have hle := hF.le
    refine s_whenJ (fun ds' => ∃ vs, FndOk n vs ∧ vs.length = n ∧ ∃ e4 e5 e6 e7 e8 e9 e10 e11 e12 e13, ds' = [.raw (.ref r), .im (.int far), .im (.int (n : Int)), .im (.lst (vs.map tI)), e4, e5, e6, e7, e8, e9, e10, e11, e12, e13]) E3
      (gt_test (g_op (G.is (g_cb (ga_cons (g_var rfl) ga_nil) onk_lenL) (by rw [List.length_map])) (g_var rfl) o2_lt)) (fun hc H4 N E4 hN => ?_) (fun hc => ?_) ?_
    · obtain ⟨u1, u2, u3⟩ := unit_ok n nmem
      refine s_asg E4 (g_lcA (zs := rg 0 n) (e := D.int) (u := fun z ds => ds.set 6 (.im (.int z))) (fun k => tI ((rg 0 n).map fun a => if a = k then 1 else 0)) ((gi_rng1 (ga_cons (g_var rfl) ga_nil) (by omega)).is (by rw [Int.toNat_natCast])) (by rw [rg_len]; omega) (fun z _ => tg_name)
        (fun p acc k hk => G.is (g_cb (ga_cons (g_lcA (zs := rg 0 n) (e := D.int) (u := fun z ds => ds.set 12 (.im (.int z))) (fun a => D.int (if a = k then 1 else 0)) ((gi_rng1 (ga_cons (g_var rfl) ga_nil) (by omega)).is (by rw [Int.toNat_natCast])) (by rw [rg_len]; omega) (fun z _ => tg_name)
          (fun p2 acc2 a ha => g_if (gt_test (g_op (g_var rfl) (g_var rfl) o2_eqI)) (fun h => ?_) (fun h => ?_))) ga_nil) onk_tupL) ?_)) fun σ5 H5 E5 => hN _ _ _ ⟨unitV n, ⟨by omega, u2, fun _ => u3⟩, u1, ?_⟩ E5
      · have h' : a = k := by simpa using h
        rw [if_pos h']
        exact g_int
      · have h' : ¬ a = k := by simpa using h
        rw [if_neg h']
        exact g_int
      · show D.tup _ = D.tup _
        rw [List.map_map] <;> rfl
      · have e1 : (rg 0 n).map (fun k => tI ((rg 0 n).map fun a => if a = k then 1 else 0)) = (unitV n).map tI := by
          unfold unitV
          rw [List.map_map] <;> rfl
        rw [e1]
        exact ⟨_, _, _, _, _, _, _, _, _, _, rfl⟩
    · have : ¬ (vs.length : Int) < (n : Int) := of_decide_eq_false hc
      exact ⟨vs, hF, by omega, _, _, _, _, _, _, _, _, _, _, rfl⟩
    · rintro σ4 H4 ds4 ⟨vs, hF, hvn, e4, e5, e6, e7, e8, e9, e10, e11, e12, e13, rfl⟩ E4
      refine q_asgX E4 (gx_cb1 (P' := fun d => ∃ zs : List Int, d = tI zs ∧ zs.length = n ∧ ∀ x ∈ zs, -3 ≤ x ∧ x ≤ 3) (gx_lc (zs := rg 0 n) (e := D.int) (u := fun z ds => ds.set 6 (.im (.int z))) (T := fun _ c => c = true) (P := fun _ y => ∃ x : Int, y = .int x ∧ -3 ≤ x ∧ x ≤ 3) ((gi_rng1 (ga_cons (g_var rfl) ga_nil) (by omega)).is (by rw [Int.toNat_natCast])) (by rw [rg_len]; omega) (fun z _ => tg_name)
        (fun p acc z _ _ => gt_yes.x) (fun p acc z np _ _ => (gx_draw (W.ow np) rfl (ga_cons g_int ga_nil) ⟨3, rfl, by decide, by decide⟩).imp ?_)) ?_) fun d σ5 H5 hd E5 => ?_
      · rintro d ⟨most, x, e, rfl, h3, h4⟩
        have e : [D.int 3] = [D.int most] := e
        cases e
        exact ⟨x, rfl, h3, h4⟩
      · rintro d ⟨ys, rfl, hL⟩
        obtain ⟨zs, rfl, hz1, hz2⟩ := hL.ints
        rw [rg_len] at hz1
        exact ⟨_, ⟨zs, rfl, hz1, hz2⟩, onk_tupL⟩
      obtain ⟨apex, rfl, ha1, ha2⟩ := hd
      refine s_retX E5 ((gx_tup (gax_cons (g_var rfl) (gax_cons (g_cb (ga_cons (g_var rfl) ga_nil) onk_tupL) (gax_one (gx_cb1 (P' := fun d => ∃ pl : List Int, d = tI pl ∧ pl.Sublist (rg 0 n)) (gx_lc (zs := rg 0 n) (e := D.int) (u := fun z ds => ds.set 6 (.im (.int z))) (T := fun _ _ => True) (P := fun x y => y = .int x) ((gi_rng1 (ga_cons (g_var rfl) ga_nil) (by omega)).is (by rw [Int.toNat_natCast])) (by rw [rg_len]; omega) (fun z _ => tg_name)
        (fun p acc z np _ => gtx_test (gx_op (P' := fun d => ∃ c, d = .bl c) (gx_draw (W.ow np) rfl (ga_cons g_int ga_nil) ⟨2, rfl, by decide, by decide⟩) g_int ?_) ?_) (fun p acc z np _ _ => (g_var rfl).x)) ?_)))) ?_).imp ?_) q
      · rintro d ⟨many, x, e, rfl, h3, h4⟩
        exact ⟨_, ⟨_, rfl⟩, o2_eqI⟩
      · rintro d ⟨c, rfl⟩
        exact ⟨c, rfl, trivial⟩
      · rintro d ⟨ys, rfl, hL⟩
        obtain ⟨zs, rfl, hs⟩ := hL.sub
        exact ⟨_, ⟨zs, rfl, hs⟩, onk_tupL⟩
      · rintro as ⟨t, rfl, t2, rfl, d, rfl, _⟩
        simp
      · rintro d ⟨as, rfl, t, rfl, t2, rfl, d, rfl, pl, rfl, hs⟩
        refine ⟨apex, vs, pl, rfl, ?_⟩
        have hpl := hs.length_le
        rw [rg_len] at hpl
        exact {
          n1 := by omega
          n3 := by omega
          al := by omega
          ab := ha2
          vl := fun v hv => by rw [hvn]; exact (hF.v v hv).1
          vb := fun v hv => (hF.v v hv).2.2
          vp := fun v hv => (hF.v v hv).2.1
          d0 := hF.d hvn
          pa := (rg_pw 0 n).sublist hs
          pb := fun k hk => by
            obtain ⟨i, hi⟩ := List.getElem?_of_mem (hs.subset hk)
            obtain ⟨h1, rfl⟩ := rg_get hi
            omega
          pn := by omega }
end
end Lk
set_option linter.all false
/-! how many points a half-open box has: plain -/
namespace Lk
/-- P holds of just n things -/
def Cnt {α : Type} (P : α → Prop) (n : Nat) : Prop := ∃ l : List α, l.Nodup ∧ (∀ x, x ∈ l ↔ P x) ∧ l.length = n
theorem Cnt.len {α : Type} {P : α → Prop} {n : Nat} (h : Cnt P n) {l : List α} (hd : l.Nodup) (hm : ∀ x, x ∈ l ↔ P x) : l.length = n := by
  obtain ⟨l', h1, h2, h3⟩ := h
  rw [← h3]
  exact ((List.perm_ext_iff_of_nodup hd h1).mpr fun x => by rw [hm, h2]).length_eq
theorem Cnt.congr {α : Type} {P P' : α → Prop} {n : Nat} (h : Cnt P n) (e : ∀ x, P x ↔ P' x) : Cnt P' n := by
  obtain ⟨l, h1, h2, h3⟩ := h
  exact ⟨l, h1, fun x => by rw [h2, e], h3⟩
theorem nodup_map {α β : Type} {f : α → β} {g : β → α} (hg : ∀ x, g (f x) = x) : ∀ {l : List α}, l.Nodup → (l.map f).Nodup
  | [], _ => List.nodup_nil
  | x :: l, h => by
    obtain ⟨h1, h2⟩ := List.nodup_cons.mp h
    rw [List.map_cons, List.nodup_cons]
    refine ⟨fun hm => ?_, nodup_map hg h2⟩
    obtain ⟨y, hy, e⟩ := List.mem_map.mp hm
    have : y = x := by rw [← hg y, e, hg x]
    rw [this] at hy
    exact h1 hy
/-- along a map that can be undone -/
theorem Cnt.map {α β : Type} {P : α → Prop} {n : Nat} (f : α → β) (g : β → α) (hg : ∀ x, g (f x) = x) (hf : ∀ y, f (g y) = y) (h : Cnt P n) : Cnt (fun y => P (g y)) n := by
  obtain ⟨l, h1, h2, h3⟩ := h
  refine ⟨l.map f, nodup_map hg h1, fun y => ?_, by rw [List.length_map, h3]⟩
  rw [List.mem_map]
  constructor
  · rintro ⟨x, hx, rfl⟩
    show P (g (f x))
    rw [hg]
    exact (h2 x).mp hx
  · intro hy
    exact ⟨g y, (h2 _).mpr hy, hf y⟩
/-- for each of n things m -/
theorem Cnt.fib {α β : Type} {P : α → Prop} {Q : α → β → Prop} {n m : Nat} (h : Cnt P n) (hq : ∀ a, P a → Cnt (Q a) m) : Cnt (fun p : α × β => P p.1 ∧ Q p.1 p.2) (n * m) := by
  obtain ⟨l, h1, h2, h3⟩ := h
  have key : ∀ l : List α, l.Nodup → (∀ x ∈ l, P x) → ∃ r : List (α × β), r.Nodup ∧ (∀ p, p ∈ r ↔ p.1 ∈ l ∧ Q p.1 p.2) ∧ r.length = l.length * m := by
    intro l
    induction l with
    | nil => intro _ _; exact ⟨[], List.nodup_nil, fun p => by simp, by simp⟩
    | cons x l ih =>
      intro hd hp
      obtain ⟨hd1, hd2⟩ := List.nodup_cons.mp hd
      obtain ⟨r, r1, r2, r3⟩ := ih hd2 fun y hy => hp y (List.mem_cons_of_mem _ hy)
      obtain ⟨k, k1, k2, k3⟩ := hq x (hp x List.mem_cons_self)
      refine ⟨k.map (fun b => (x, b)) ++ r, ?_, fun p => ?_, ?_⟩
      · rw [List.nodup_append]
        refine ⟨nodup_map (g := fun p : α × β => p.2) (fun _ => rfl) k1, r1, fun a ha c hc e => ?_⟩
        obtain ⟨b, _, rfl⟩ := List.mem_map.mp ha
        subst e
        exact hd1 ((r2 _).mp hc).1
      · rw [List.mem_append, List.mem_map, r2, List.mem_cons]
        constructor
        · rintro (⟨b, hb, rfl⟩ | ⟨h4, h5⟩)
          · exact ⟨.inl rfl, (k2 b).mp hb⟩
          · exact ⟨.inr h4, h5⟩
        · rintro ⟨h4 | h4, h5⟩
          · refine .inl ⟨p.2, (k2 _).mpr (by rw [← h4]; exact h5), by rw [← h4]⟩
          · exact .inr ⟨h4, h5⟩
      · rw [List.length_append, List.length_map, r3, k3, List.length_cons, Nat.succ_mul, Nat.add_comm]
  obtain ⟨r, r1, r2, r3⟩ := key l h1 fun x hx => (h2 x).mp hx
  exact ⟨r, r1, fun p => by rw [r2, h2], by rw [r3, h3]⟩
/-! along a line -/
theorem lin_pos {k t c : Int} (hk : 0 < k) (n : Nat) : Cnt (fun x : Int => t ≤ k * x + c ∧ k * x + c < t + k * (n : Int)) n := by
  have hd : c - t = k * ((c - t) / k) + (c - t) % k := (Int.mul_ediv_add_emod (c - t) k).symm
  have hr0 := Int.emod_nonneg (c - t) (by omega : k ≠ 0)
  have hr1 := Int.emod_lt_of_pos (c - t) hk
  generalize (c - t) / k = d at hd
  generalize (c - t) % k = r at hd hr0 hr1
  refine ⟨(List.range n).map fun i : Nat => (i : Int) - d, ?_, fun x => ?_, by rw [List.length_map, List.length_range]⟩
  · exact nodup_map (g := fun y : Int => (y + d).toNat) (fun i => by show ((i : Int) - d + d).toNat = i; omega) List.nodup_range
  · rw [List.mem_map]
    have e : k * x + c = t + (k * (x + d) + r) := by
      rw [Int.mul_add]
      omega
    show _ ↔ (t ≤ k * x + c ∧ k * x + c < t + k * (n : Int))
    rw [e]
    constructor
    · rintro ⟨i, hi, rfl⟩
      rw [List.mem_range] at hi
      rw [show (i : Int) - d + d = i by omega]
      have h1 : 0 ≤ k * (i : Int) := Int.mul_nonneg (by omega) (by omega)
      have h2 : k * ((i : Int) + 1) ≤ k * (n : Int) := Int.mul_le_mul_of_nonneg_left (by omega) (by omega)
      rw [Int.mul_add, Int.mul_one] at h2
      omega
    · rintro ⟨h1, h2⟩
      have a1 : 0 ≤ x + d := by
        refine Int.not_lt.mp fun hneg => ?_
        have h3 : k * (x + d + 1) ≤ k * 0 := Int.mul_le_mul_of_nonneg_left (by omega) (by omega)
        rw [Int.mul_add, Int.mul_one, Int.mul_zero] at h3
        omega
      have a2 : x + d < (n : Int) := by
        refine Int.not_le.mp fun hge => ?_
        have h3 : k * (n : Int) ≤ k * (x + d) := Int.mul_le_mul_of_nonneg_left hge (by omega)
        omega
      refine ⟨(x + d).toNat, ?_, by omega⟩
      rw [List.mem_range]
      omega
theorem lin {k t c W : Int} (hk : k ≠ 0) (n : Nat) (hW : W = (k.natAbs : Int) * (n : Int)) : Cnt (fun x : Int => t ≤ k * x + c ∧ k * x + c < t + W) n := by
  rcases Int.lt_trichotomy 0 k with h | h | h
  · have e : W = k * (n : Int) := by
      rw [hW]
      congr 1
      omega
    rw [e]
    exact lin_pos h n
  · exact absurd h.symm hk
  · have e : W = (-k) * (n : Int) := by
      rw [hW]
      congr 1
      omega
    rw [e]
    refine ((lin_pos (k := -k) (t := t) (c := c) (by omega) n).map (fun x => -x) (fun x => -x) (fun x => by omega) (fun x => by omega)).congr fun x => ?_
    have e2 : -k * -x = k * x := Int.neg_mul_neg k x
    rw [e2]
/-- a pair of numbers, turned so that the second is 0 -/
theorem turn : ∀ (n : Nat) (a b : Int), b.natAbs = n → ∃ p q r s : Int, p * s - q * r = 1 ∧ r * a + s * b = 0 := by
  intro n
  induction n using Nat.strongRecOn with
  | _ n ih =>
    intro a b hb
    by_cases h0 : b = 0
    · exact ⟨1, 0, 0, 1, by decide, by rw [h0]; omega⟩
    · have hr0 := Int.emod_nonneg a h0
      have hr1 := Int.emod_lt a h0
      have hd := Int.mul_ediv_add_emod a b
      generalize a / b = k at hd
      generalize a % b = m at hd hr0 hr1
      obtain ⟨p, q, r, s, h1, h2⟩ := ih (-m).natAbs (by omega) b (-m) rfl
      refine ⟨-q, p + q * k, -s, r + s * k, ?_, ?_⟩
      · grind
      · grind
end Lk
set_option linter.all false
set_option maxHeartbeats 4000000
/-! half-open boxes of cones in one, two and three dimensions: how many points -/
namespace Lk
theorem Cnt.img {α β : Type} {P : α → Prop} {n : Nat} (f : α → β) (g : β → α) (hg : ∀ x, g (f x) = x) (h : Cnt P n) : Cnt (fun y => ∃ x, P x ∧ f x = y) n := by
  obtain ⟨l, h1, h2, h3⟩ := h
  refine ⟨l.map f, nodup_map hg h1, fun y => ?_, by rw [List.length_map, h3]⟩
  rw [List.mem_map]
  constructor
  · rintro ⟨x, hx, e⟩
    exact ⟨x, (h2 x).mp hx, e⟩
  · rintro ⟨x, hx, e⟩
    exact ⟨x, (h2 x).mpr hx, e⟩
def dt2 (a b c d : Int) : Int := a * d - b * c
def dt (a b c d e f g h i : Int) : Int := a * (e * i - f * h) - b * (d * i - f * g) + c * (d * h - e * g)
def In (t m W : Int) : Prop := t ≤ m ∧ m < t + W
def B2 (s t1 t2 a b c d : Int) (p : Int × Int) : Prop := In t1 (s * dt2 p.1 p.2 c d) (s * dt2 a b c d) ∧ In t2 (s * dt2 a b p.1 p.2) (s * dt2 a b c d)
def B3 (s t1 t2 t3 a b c d e f g h i : Int) (p : Int × Int × Int) : Prop :=
  In t1 (s * dt p.1 p.2.1 p.2.2 d e f g h i) (s * dt a b c d e f g h i) ∧ In t2 (s * dt a b c p.1 p.2.1 p.2.2 g h i) (s * dt a b c d e f g h i) ∧
    In t3 (s * dt a b c d e f p.1 p.2.1 p.2.2) (s * dt a b c d e f g h i)
section
variable {s t1 t2 t3 a b c d e f g h i : Int}
theorem abs_s (hs : s = 1 ∨ s = -1) {x : Int} (h : 0 < s * x) : s * x = (x.natAbs : Int) := by
  rcases hs with rfl | rfl <;> omega
theorem nab_s (hs : s = 1 ∨ s = -1) (x : Int) : (s * x).natAbs = x.natAbs := by
  rcases hs with rfl | rfl <;> omega
theorem s_ne (hs : s = 1 ∨ s = -1) : s ≠ 0 := by
  rcases hs with rfl | rfl <;> decide
theorem tri3 (hs : s = 1 ∨ s = -1) (hW : 0 < s * dt a 0 0 d e 0 g h i) : Cnt (B3 s t1 t2 t3 a 0 0 d e 0 g h i) (dt a 0 0 d e 0 g h i).natAbs := by
  have eW := abs_s hs hW
  have eD : dt a 0 0 d e 0 g h i = a * e * i := by
    unfold dt
    grind
  rw [eD] at eW hW
  have h0 : a * e * i ≠ 0 := fun z => by rw [z, Int.mul_zero] at hW; omega
  have hi : i ≠ 0 := fun z => h0 (by rw [z, Int.mul_zero])
  have he : e ≠ 0 := fun z => h0 (by rw [z, Int.mul_zero, Int.zero_mul])
  have ha : a ≠ 0 := fun z => h0 (by rw [z, Int.zero_mul, Int.zero_mul])
  have hs0 := s_ne hs
  have kz : s * (a * e) ≠ 0 := Int.mul_ne_zero hs0 (Int.mul_ne_zero ha he)
  have ky : s * (a * i) ≠ 0 := Int.mul_ne_zero hs0 (Int.mul_ne_zero ha hi)
  have kx : s * (e * i) ≠ 0 := Int.mul_ne_zero hs0 (Int.mul_ne_zero he hi)
  have wz : s * (a * e * i) = ((s * (a * e)).natAbs : Int) * (i.natAbs : Int) := by
    rw [eW, nab_s hs, ← Int.natCast_mul, ← Int.natAbs_mul]
  have wy : s * (a * e * i) = ((s * (a * i)).natAbs : Int) * (e.natAbs : Int) := by
    rw [eW, nab_s hs, ← Int.natCast_mul, ← Int.natAbs_mul]
    congr 2
    grind
  have wx : s * (a * e * i) = ((s * (e * i)).natAbs : Int) * (a.natAbs : Int) := by
    rw [eW, nab_s hs, ← Int.natCast_mul, ← Int.natAbs_mul]
    congr 2
    grind
  have cz := lin (t := t3) (c := 0) kz i.natAbs wz
  have cy := fun z : Int => lin (t := t2) (c := - (s * (a * (z * h)))) ky e.natAbs wy
  have cx := fun z y : Int => lin (t := t1) (c := s * (z * (d * h - e * g) - y * (d * i))) kx a.natAbs wx
  have key := ((cz.fib (Q := fun z (q : Int × Int) => _) fun z _ => (cy z).fib (Q := fun y x => _) fun y _ => cx z y).map (fun p : Int × Int × Int => (p.2.2, p.2.1, p.1)) (fun p => (p.2.2, p.2.1, p.1)) (fun _ => rfl) (fun _ => rfl))
  have en : (dt a 0 0 d e 0 g h i).natAbs = i.natAbs * (e.natAbs * a.natAbs) := by
    rw [eD, Int.natAbs_mul, Int.natAbs_mul, Nat.mul_comm, Nat.mul_comm a.natAbs]
  rw [en]
  refine key.congr fun p => ?_
  obtain ⟨x, y, z⟩ := p
  have e1 : s * dt x y z d e 0 g h i = s * (e * i) * x + s * (z * (d * h - e * g) - y * (d * i)) := by
    unfold dt
    grind
  have e2 : s * dt a 0 0 x y z g h i = s * (a * i) * y + - (s * (a * (z * h))) := by
    unfold dt
    grind
  have e3 : s * dt a 0 0 d e 0 x y z = s * (a * e) * z + 0 := by
    unfold dt
    grind
  show _ ↔ In t1 (s * dt x y z d e 0 g h i) _ ∧ In t2 (s * dt a 0 0 x y z g h i) _ ∧ In t3 (s * dt a 0 0 d e 0 x y z) _
  rw [e1, e2, e3, eD]
  constructor
  · rintro ⟨h1, h2, h3⟩
    exact ⟨h3, h2, h1⟩
  · rintro ⟨h1, h2, h3⟩
    exact ⟨h3, h2, h1⟩
theorem tri2 (hs : s = 1 ∨ s = -1) (hW : 0 < s * dt2 a 0 c d) : Cnt (B2 s t1 t2 a 0 c d) (dt2 a 0 c d).natAbs := by
  have eW := abs_s hs hW
  have eD : dt2 a 0 c d = a * d := by
    unfold dt2
    grind
  rw [eD] at eW hW
  have h0 : a * d ≠ 0 := fun z => by rw [z, Int.mul_zero] at hW; omega
  have hd : d ≠ 0 := fun z => h0 (by rw [z, Int.mul_zero])
  have ha : a ≠ 0 := fun z => h0 (by rw [z, Int.zero_mul])
  have hs0 := s_ne hs
  have wy : s * (a * d) = ((s * a).natAbs : Int) * (d.natAbs : Int) := by
    rw [eW, nab_s hs, ← Int.natCast_mul, ← Int.natAbs_mul]
  have wx : s * (a * d) = ((s * d).natAbs : Int) * (a.natAbs : Int) := by
    rw [eW, nab_s hs, ← Int.natCast_mul, ← Int.natAbs_mul, Int.mul_comm]
  have cy := lin (t := t2) (c := 0) (Int.mul_ne_zero hs0 ha) d.natAbs wy
  have cx := fun y : Int => lin (t := t1) (c := - (s * (y * c))) (Int.mul_ne_zero hs0 hd) a.natAbs wx
  have key := (cy.fib (Q := fun y x => _) fun y _ => cx y).map (fun p : Int × Int => (p.2, p.1)) (fun p => (p.2, p.1)) (fun _ => rfl) (fun _ => rfl)
  have en : (dt2 a 0 c d).natAbs = d.natAbs * a.natAbs := by
    rw [eD, Int.natAbs_mul, Nat.mul_comm]
  rw [en]
  refine key.congr fun p => ?_
  obtain ⟨x, y⟩ := p
  have e1 : s * dt2 x y c d = s * d * x + - (s * (y * c)) := by
    unfold dt2
    grind
  have e2 : s * dt2 a 0 x y = s * a * y + 0 := by
    unfold dt2
    grind
  show _ ↔ In t1 (s * dt2 x y c d) _ ∧ In t2 (s * dt2 a 0 x y) _
  rw [e1, e2, eD]
  exact ⟨fun ⟨h1, h2⟩ => ⟨h2, h1⟩, fun ⟨h1, h2⟩ => ⟨h2, h1⟩⟩
theorem yz3 {p q r u : Int} (hp : p * u - q * r = 1) (hc : Cnt (B3 s t1 t2 t3 a (p * b + q * c) (r * b + u * c) d (p * e + q * f) (r * e + u * f) g (p * h + q * i) (r * h + u * i)) (dt a (p * b + q * c) (r * b + u * c) d (p * e + q * f) (r * e + u * f) g (p * h + q * i) (r * h + u * i)).natAbs) :
    Cnt (B3 s t1 t2 t3 a b c d e f g h i) (dt a b c d e f g h i).natAbs := by
  have inv : ∀ a b c d e f g h i : Int, dt a (p * b + q * c) (r * b + u * c) d (p * e + q * f) (r * e + u * f) g (p * h + q * i) (r * h + u * i) = dt a b c d e f g h i := by
    intro a b c d e f g h i
    have : dt a (p * b + q * c) (r * b + u * c) d (p * e + q * f) (r * e + u * f) g (p * h + q * i) (r * h + u * i) = (p * u - q * r) * dt a b c d e f g h i := by
      unfold dt
      grind
    rw [this, hp, Int.one_mul]
  have key := hc.map (fun x : Int × Int × Int => (x.1, u * x.2.1 - q * x.2.2, p * x.2.2 - r * x.2.1)) (fun x => (x.1, p * x.2.1 + q * x.2.2, r * x.2.1 + u * x.2.2))
    (fun x => by
      obtain ⟨x, y, z⟩ := x
      have e1 : p * (u * y - q * z) + q * (p * z - r * y) = (p * u - q * r) * y := by grind
      have e2 : r * (u * y - q * z) + u * (p * z - r * y) = (p * u - q * r) * z := by grind
      show (x, p * (u * y - q * z) + q * (p * z - r * y), r * (u * y - q * z) + u * (p * z - r * y)) = (x, y, z)
      rw [e1, e2, hp, Int.one_mul, Int.one_mul])
    (fun x => by
      obtain ⟨x, y, z⟩ := x
      have e1 : u * (p * y + q * z) - q * (r * y + u * z) = (p * u - q * r) * y := by grind
      have e2 : p * (r * y + u * z) - r * (p * y + q * z) = (p * u - q * r) * z := by grind
      show (x, u * (p * y + q * z) - q * (r * y + u * z), p * (r * y + u * z) - r * (p * y + q * z)) = (x, y, z)
      rw [e1, e2, hp, Int.one_mul, Int.one_mul])
  rw [inv] at key
  refine key.congr fun x => ?_
  unfold B3
  dsimp only
  rw [inv, inv, inv, inv]
theorem xy3 {p q r u : Int} (hp : p * u - q * r = 1) (hc : Cnt (B3 s t1 t2 t3 (p * a + q * b) (r * a + u * b) c (p * d + q * e) (r * d + u * e) f (p * g + q * h) (r * g + u * h) i) (dt (p * a + q * b) (r * a + u * b) c (p * d + q * e) (r * d + u * e) f (p * g + q * h) (r * g + u * h) i).natAbs) :
    Cnt (B3 s t1 t2 t3 a b c d e f g h i) (dt a b c d e f g h i).natAbs := by
  have inv : ∀ a b c d e f g h i : Int, dt (p * a + q * b) (r * a + u * b) c (p * d + q * e) (r * d + u * e) f (p * g + q * h) (r * g + u * h) i = dt a b c d e f g h i := by
    intro a b c d e f g h i
    have : dt (p * a + q * b) (r * a + u * b) c (p * d + q * e) (r * d + u * e) f (p * g + q * h) (r * g + u * h) i = (p * u - q * r) * dt a b c d e f g h i := by
      unfold dt
      grind
    rw [this, hp, Int.one_mul]
  have key := hc.map (fun x : Int × Int × Int => (u * x.1 - q * x.2.1, p * x.2.1 - r * x.1, x.2.2)) (fun x => (p * x.1 + q * x.2.1, r * x.1 + u * x.2.1, x.2.2))
    (fun x => by
      obtain ⟨y, z, x⟩ := x
      have e1 : p * (u * y - q * z) + q * (p * z - r * y) = (p * u - q * r) * y := by grind
      have e2 : r * (u * y - q * z) + u * (p * z - r * y) = (p * u - q * r) * z := by grind
      show (p * (u * y - q * z) + q * (p * z - r * y), r * (u * y - q * z) + u * (p * z - r * y), x) = (y, z, x)
      rw [e1, e2, hp, Int.one_mul, Int.one_mul])
    (fun x => by
      obtain ⟨y, z, x⟩ := x
      have e1 : u * (p * y + q * z) - q * (r * y + u * z) = (p * u - q * r) * y := by grind
      have e2 : p * (r * y + u * z) - r * (p * y + q * z) = (p * u - q * r) * z := by grind
      show (u * (p * y + q * z) - q * (r * y + u * z), p * (r * y + u * z) - r * (p * y + q * z), x) = (y, z, x)
      rw [e1, e2, hp, Int.one_mul, Int.one_mul])
  rw [inv] at key
  refine key.congr fun x => ?_
  unfold B3
  dsimp only
  rw [inv, inv, inv, inv]
theorem xy2 {p q r u : Int} (hp : p * u - q * r = 1) (hc : Cnt (B2 s t1 t2 (p * a + q * b) (r * a + u * b) (p * c + q * d) (r * c + u * d)) (dt2 (p * a + q * b) (r * a + u * b) (p * c + q * d) (r * c + u * d)).natAbs) :
    Cnt (B2 s t1 t2 a b c d) (dt2 a b c d).natAbs := by
  have inv : ∀ a b c d : Int, dt2 (p * a + q * b) (r * a + u * b) (p * c + q * d) (r * c + u * d) = dt2 a b c d := by
    intro a b c d
    have : dt2 (p * a + q * b) (r * a + u * b) (p * c + q * d) (r * c + u * d) = (p * u - q * r) * dt2 a b c d := by
      unfold dt2
      grind
    rw [this, hp, Int.one_mul]
  have key := hc.map (fun x : Int × Int => (u * x.1 - q * x.2, p * x.2 - r * x.1)) (fun x => (p * x.1 + q * x.2, r * x.1 + u * x.2))
    (fun x => by
      obtain ⟨y, z⟩ := x
      have e1 : p * (u * y - q * z) + q * (p * z - r * y) = (p * u - q * r) * y := by grind
      have e2 : r * (u * y - q * z) + u * (p * z - r * y) = (p * u - q * r) * z := by grind
      show (p * (u * y - q * z) + q * (p * z - r * y), r * (u * y - q * z) + u * (p * z - r * y)) = (y, z)
      rw [e1, e2, hp, Int.one_mul, Int.one_mul])
    (fun x => by
      obtain ⟨y, z⟩ := x
      have e1 : u * (p * y + q * z) - q * (r * y + u * z) = (p * u - q * r) * y := by grind
      have e2 : p * (r * y + u * z) - r * (p * y + q * z) = (p * u - q * r) * z := by grind
      show (u * (p * y + q * z) - q * (r * y + u * z), p * (r * y + u * z) - r * (p * y + q * z)) = (y, z)
      rw [e1, e2, hp, Int.one_mul, Int.one_mul])
  rw [inv] at key
  refine key.congr fun x => ?_
  unfold B2
  dsimp only
  rw [inv, inv, inv]
theorem cnt2 (hs : s = 1 ∨ s = -1) (hW : 0 < s * dt2 a b c d) : Cnt (B2 s t1 t2 a b c d) (dt2 a b c d).natAbs := by
  obtain ⟨p, q, r, u, h1, h2⟩ := turn _ a b rfl
  have inv : dt2 (p * a + q * b) (r * a + u * b) (p * c + q * d) (r * c + u * d) = (p * u - q * r) * dt2 a b c d := by
    unfold dt2
    grind
  rw [h1, Int.one_mul] at inv
  refine xy2 h1 ?_
  rw [← inv] at hW
  rw [h2] at hW ⊢
  exact tri2 hs hW
theorem cnt3b (hs : s = 1 ∨ s = -1) (hW : 0 < s * dt a 0 0 d e f g h i) : Cnt (B3 s t1 t2 t3 a 0 0 d e f g h i) (dt a 0 0 d e f g h i).natAbs := by
  obtain ⟨p, q, r, u, h1, h2⟩ := turn _ e f rfl
  have inv : dt a (p * 0 + q * 0) (r * 0 + u * 0) d (p * e + q * f) (r * e + u * f) g (p * h + q * i) (r * h + u * i) = (p * u - q * r) * dt a 0 0 d e f g h i := by
    unfold dt
    grind
  rw [h1, Int.one_mul] at inv
  refine yz3 h1 ?_
  rw [← inv] at hW
  rw [h2] at hW ⊢
  rw [Int.mul_zero, Int.mul_zero, Int.mul_zero, Int.mul_zero, Int.add_zero] at hW ⊢
  exact tri3 hs hW
theorem cnt3a (hs : s = 1 ∨ s = -1) (hW : 0 < s * dt a b 0 d e f g h i) : Cnt (B3 s t1 t2 t3 a b 0 d e f g h i) (dt a b 0 d e f g h i).natAbs := by
  obtain ⟨p, q, r, u, h1, h2⟩ := turn _ a b rfl
  have inv : dt (p * a + q * b) (r * a + u * b) 0 (p * d + q * e) (r * d + u * e) f (p * g + q * h) (r * g + u * h) i = (p * u - q * r) * dt a b 0 d e f g h i := by
    unfold dt
    grind
  rw [h1, Int.one_mul] at inv
  refine xy3 h1 ?_
  rw [← inv] at hW
  rw [h2] at hW ⊢
  exact cnt3b hs hW
theorem cnt3 (hs : s = 1 ∨ s = -1) (hW : 0 < s * dt a b c d e f g h i) : Cnt (B3 s t1 t2 t3 a b c d e f g h i) (dt a b c d e f g h i).natAbs := by
  obtain ⟨p, q, r, u, h1, h2⟩ := turn _ b c rfl
  have inv : dt a (p * b + q * c) (r * b + u * c) d (p * e + q * f) (r * e + u * f) g (p * h + q * i) (r * h + u * i) = (p * u - q * r) * dt a b c d e f g h i := by
    unfold dt
    grind
  rw [h1, Int.one_mul] at inv
  refine yz3 h1 ?_
  rw [← inv] at hW
  rw [h2] at hW ⊢
  exact cnt3a hs hW
/-! the box about it -/
theorem le_max {m v W : Int} (h0 : 0 ≤ m) (h1 : m ≤ W) : m * v ≤ W * max 0 v := by
  by_cases hv : 0 ≤ v
  · rw [show max 0 v = v by omega]
    exact Int.mul_le_mul_of_nonneg_right h1 hv
  · rw [show max 0 v = 0 by omega, Int.mul_zero]
    exact Int.mul_nonpos_of_nonneg_of_nonpos h0 (by omega)
theorem ge_min {m v W : Int} (h0 : 0 ≤ m) (h1 : m ≤ W) : W * min 0 v ≤ m * v := by
  by_cases hv : 0 ≤ v
  · rw [show min 0 v = 0 by omega, Int.mul_zero]
    exact Int.mul_nonneg h0 hv
  · rw [show min 0 v = v by omega]
    exact Int.mul_le_mul_of_nonpos_right h1 (by omega)
end
end Lk
set_option Elab.async false
set_option linter.all false
set_option maxRecDepth 100000
set_option maxHeartbeats 4000000
namespace Lk
open PySem PySem.Spec PyProof.Rows L2 RZ
open Evl (Ex)
section
variable {P : Program} {w : World} {K : PySem.W.Frag} {mg : Str → Option Value} {base : Heap}
/-! the plain mathematics -/
section
variable {apex pl : List Int} {vs : List (List Int)}
/-- a fraction in least terms, and the two it came from -/
theorem red_of {n d : Int} (hd : d ≠ 0) : ∃ g : Int, 0 < g ∧ (if 0 < d then n else 0 - n) = g * (red n d).1 ∧ (if 0 < d then d else 0 - d) = g * (red n d).2 := by
  have hg := gcd_pos (x := n) hd
  obtain ⟨a, ha⟩ := Int.gcd_dvd_left n d
  obtain ⟨c, hc⟩ := Int.gcd_dvd_right n d
  refine ⟨(Int.gcd n d : Nat), by omega, ?_⟩
  unfold red redC
  generalize hG : ((Int.gcd n d : Nat) : Int) = G at ha hc ⊢
  have hG0 : 0 < G := by omega
  by_cases h : d < 0
  · rw [if_pos h, if_neg (by omega), if_neg (by omega)]
    have e1 : n.fdiv (-G) = -a := by
      rw [ha, show G * a = (-G) * (-a) from (Int.neg_mul_neg G a).symm]
      exact Int.mul_fdiv_cancel_left _ (by omega)
    have e2 : d.fdiv (-G) = -c := by
      rw [hc, show G * c = (-G) * (-c) from (Int.neg_mul_neg G c).symm]
      exact Int.mul_fdiv_cancel_left _ (by omega)
    rw [e1, e2, Int.mul_neg, Int.mul_neg, ← ha, ← hc]
    omega
  · rw [if_neg h, if_pos (by omega), if_pos (by omega)]
    have e1 : n.fdiv G = a := by
      rw [ha]
      exact Int.mul_fdiv_cancel_left _ (by omega)
    have e2 : d.fdiv G = c := by
      rw [hc]
      exact Int.mul_fdiv_cancel_left _ (by omega)
    rw [e1, e2]
    exact ⟨ha, hc⟩
theorem pos_iff {g x : Int} (hg : 0 < g) : 0 < g * x ↔ 0 < x := by
  constructor
  · intro h
    refine Int.not_le.mp fun hx => ?_
    have := Int.mul_nonpos_of_nonneg_of_nonpos (a := g) (b := x) (by omega) hx
    omega
  · exact fun h => Int.mul_pos hg h
theorem lt_iff {g x y : Int} (hg : 0 < g) : g * x < g * y ↔ x < y := by
  have := pos_iff (g := g) (x := y - x) hg
  rw [Int.mul_sub] at this
  omega
/-- the condition of one weight -/
def okW (vs : List (List Int)) (pl way : List Int) (k : Nat) : Prop := In (if (k : Int) ∈ pl then 1 else 0) (mixK vs way k) (mixW vs)
theorem mixW_pos (C : ConeOk apex vs pl) : 0 < mixW vs := by
  have := C.dc.1
  unfold mixW
  split <;> omega
theorem kept_one (C : ConeOk apex vs pl) (way : List Int) (k : Nat) : isK (wt (cols vs) way k) (decide ((k : Int) ∈ pl)) = true ↔ okW vs pl way k := by
  obtain ⟨g, hg, h1, h2⟩ := red_of (n := det (chg (cols vs) way k)) C.dc.1
  have e1 : mixK vs way k = g * (wt (cols vs) way k).1 := h1
  have e2 : mixW vs = g * (wt (cols vs) way k).2 := h2
  unfold okW In isK
  rw [e1, e2]
  generalize (wt (cols vs) way k).1 = x
  generalize (wt (cols vs) way k).2 = y
  have p1 := pos_iff (x := x) hg
  have p2 := lt_iff (x := x) (y := y) hg
  have p3 := lt_iff (x := y) (y := x) hg
  have p4 := lt_iff (x := x) (y := 0) hg
  rw [Int.mul_zero] at p4
  by_cases hp : (k : Int) ∈ pl
  · simp only [hp, if_true, decide_true, Bool.and_eq_true, decide_eq_true_eq]
    omega
  · simp only [hp, if_false, decide_false, Bool.false_eq_true, Bool.and_eq_true, decide_eq_true_eq]
    omega
theorem lkept_one (C : ConeOk apex vs pl) (way : List Int) (k : Nat) : ((decide (0 < mixK vs way k) && decide (mixK vs way k < mixW vs)) || (mixK vs way k == (if (k : Int) ∈ pl then mixW vs else 0))) = true ↔ okW vs pl way k := by
  have := mixW_pos C
  unfold okW In
  rw [Bool.or_eq_true, Bool.and_eq_true, decide_eq_true_eq, decide_eq_true_eq, beq_iff_eq]
  by_cases hp : (k : Int) ∈ pl
  · simp only [hp, if_true]
    omega
  · simp only [hp, if_false]
    omega
theorem kept_iff (C : ConeOk apex vs pl) (way : List Int) : kept vs pl way = true ↔ ∀ k, k < vs.length → okW vs pl way k := by
  unfold kept
  rw [List.all_eq_true]
  constructor
  · exact fun h k hk => (kept_one C way k).mp (h k (List.mem_range.mpr hk))
  · exact fun h k hk => (kept_one C way k).mpr (h k (List.mem_range.mp hk))
theorem lkept_iff (C : ConeOk apex vs pl) (way : List Int) : lkept vs pl way = true ↔ ∀ k, k < vs.length → okW vs pl way k := by
  unfold lkept rg
  rw [List.all_eq_true]
  constructor
  · intro h k hk
    have := h _ (List.mem_map.mpr ⟨k, List.mem_range.mpr hk, rfl⟩)
    rw [show ((0 : Int) + (k : Int)) = (k : Int) by omega, Int.toNat_natCast] at this
    exact (lkept_one C way k).mp this
  · intro h x hx
    obtain ⟨k, hk, rfl⟩ := List.mem_map.mp hx
    rw [show ((0 : Int) + (k : Int)) = (k : Int) by omega, Int.toNat_natCast]
    exact (lkept_one C way k).mpr (h k (List.mem_range.mp hk))
theorem box_same (C : ConeOk apex vs pl) : boxOf apex vs pl = lboxOf apex vs pl := by
  unfold boxOf lboxOf
  congr 1
  refine List.filter_congr fun way _ => ?_
  rw [Bool.eq_iff_iff, kept_iff C, lkept_iff C]
theorem step_mem {acc : List (List Int)} {a : List Int} {l h x : Int} (ha : a ∈ acc) (h1 : l ≤ x) (h2 : x ≤ h) : a ++ [x] ∈ boxStep acc (l, h) := by
  unfold boxStep rg
  refine List.mem_flatMap.mpr ⟨a, ha, ?_⟩
  rw [List.map_map]
  refine List.mem_map.mpr ⟨(x - l).toNat, List.mem_range.mpr ?_, ?_⟩
  · show (x - l).toNat < (h + 1 - l).toNat
    omega
  · show a ++ [l + ((x - l).toNat : Int)] = a ++ [x]
    rw [show l + ((x - l).toNat : Int) = x by omega]
theorem boxF_nd (c : List Int → Bool) : ((bxs vs).filter c).Nodup := by
  refine List.Pairwise.imp (fun {x y} h => ?_) ((boxPts_pw _).filter c)
  intro e
  subst e
  rw [ltL_irr] at h
  cases h
/-- the sign of the cone -/
def sgn (vs : List (List Int)) : Int := if 0 < det (cols vs) then 1 else -1
theorem sgn_b : sgn vs = 1 ∨ sgn vs = -1 := by
  unfold sgn
  split
  · exact .inl rfl
  · exact .inr rfl
theorem mixW_s : mixW vs = sgn vs * det (cols vs) := by
  unfold mixW sgn
  split <;> omega
theorem mixK_s (way : List Int) (k : Nat) : mixK vs way k = sgn vs * det (chg (cols vs) way k) := by
  unfold mixK sgn
  split <;> omega
theorem all3 {P : Nat → Prop} : (∀ k, k < 3 → P k) ↔ P 0 ∧ P 1 ∧ P 2 := by
  constructor
  · exact fun h => ⟨h 0 (by omega), h 1 (by omega), h 2 (by omega)⟩
  · rintro ⟨h0, h1, h2⟩ k hk
    rcases k with _ | _ | _ | k
    · exact h0
    · exact h1
    · exact h2
    · omega
theorem all2 {P : Nat → Prop} : (∀ k, k < 2 → P k) ↔ P 0 ∧ P 1 := by
  constructor
  · exact fun h => ⟨h 0 (by omega), h 1 (by omega)⟩
  · rintro ⟨h0, h1⟩ k hk
    rcases k with _ | _ | k
    · exact h0
    · exact h1
    · omega
theorem all1 {P : Nat → Prop} : (∀ k, k < 1 → P k) ↔ P 0 := by
  constructor
  · exact fun h => h 0 (by omega)
  · intro h0 k hk
    rcases k with _ | k
    · exact h0
    · omega
theorem in_b {c : Prop} [Decidable c] {m W : Int} (h : In (if c then 1 else 0) m W) : 0 ≤ m ∧ m ≤ W := by
  unfold In at h
  split at h <;> omega
theorem count1 {a : Int} (C : ConeOk apex [[a]] pl) : ((bxs [[a]]).filter (lkept [[a]] pl)).length = a.natAbs := by
  have hc : cols [[a]] = [[a]] := by
    rw [cols, show rg 0 ([[a]] : List (List Int)).length = [0] from rfl] <;> rfl
  have eW : mixW [[a]] = sgn [[a]] * a := by
    rw [mixW_s, hc] <;> rfl
  have eK : ∀ x, mixK [[a]] [x] 0 = sgn [[a]] * x := fun x => by
    rw [mixK_s, hc] <;> rfl
  have hW := mixW_pos C
  rw [eW] at hW
  have hs := sgn_b (vs := [[a]])
  have hb : bxs [[a]] = boxPts [(min 0 a + 0, max 0 a + 0)] := by
    unfold bxs
    rw [lh_zip, show rg 0 ([[a]] : List (List Int)).length = [0] from rfl] <;> rfl
  have key := (lin (t := if ((0 : Nat) : Int) ∈ pl then 1 else 0) (c := 0) (s_ne hs) a.natAbs (W := sgn [[a]] * a) (by
    rw [abs_s hs hW]
    rcases hs with h | h <;> rw [h] <;> simp)).img (fun x : Int => [x]) (fun p => p.getD 0 0) (fun _ => rfl)
  refine key.len (boxF_nd _) fun y => ?_
  rw [List.mem_filter, lkept_iff C]
  show _ ∧ (∀ k, k < 1 → okW [[a]] pl y k) ↔ _
  rw [all1]
  constructor
  · rintro ⟨h1, h2⟩
    obtain ⟨x, rfl⟩ := len1 (bxs_len h1)
    refine ⟨x, ?_, rfl⟩
    unfold okW In at h2
    rw [eW, eK] at h2
    rw [Int.add_zero]
    exact h2
  · rintro ⟨x, h2, rfl⟩
    rw [Int.add_zero] at h2
    have b := in_b h2
    refine ⟨?_, ?_⟩
    · rw [hb]
      refine step_mem (a := []) (acc := [[]]) (List.mem_singleton.mpr rfl) ?_ ?_
      · rcases hs with h | h <;> rw [h] at b <;> omega
      · rcases hs with h | h <;> rw [h] at b <;> omega
    · unfold okW
      rw [eW, eK]
      exact h2
theorem count2 {a b c d : Int} (C : ConeOk apex [[a, b], [c, d]] pl) : ((bxs [[a, b], [c, d]]).filter (lkept [[a, b], [c, d]] pl)).length = (dt2 a b c d).natAbs := by
  have hc : cols [[a, b], [c, d]] = [[a, c], [b, d]] := by
    rw [cols, show rg 0 ([[a, b], [c, d]] : List (List Int)).length = [0, 1] from rfl] <;> rfl
  have eW : mixW [[a, b], [c, d]] = sgn [[a, b], [c, d]] * dt2 a b c d := by
    rw [mixW_s, hc]
    show _ * (a * d - c * b) = _
    rw [Int.mul_comm c b] <;> rfl
  have eK0 : ∀ x y, mixK [[a, b], [c, d]] [x, y] 0 = sgn [[a, b], [c, d]] * dt2 x y c d := fun x y => by
    rw [mixK_s, hc]
    show _ * (x * d - c * y) = _
    rw [Int.mul_comm c y] <;> rfl
  have eK1 : ∀ x y, mixK [[a, b], [c, d]] [x, y] 1 = sgn [[a, b], [c, d]] * dt2 a b x y := fun x y => by
    rw [mixK_s, hc]
    show _ * (a * y - x * b) = _
    rw [Int.mul_comm x b] <;> rfl
  have hW := mixW_pos C
  rw [eW] at hW
  have hs := sgn_b (vs := [[a, b], [c, d]])
  have hb : bxs [[a, b], [c, d]] = boxPts [(min 0 a + (min 0 c + 0), max 0 a + (max 0 c + 0)), (min 0 b + (min 0 d + 0), max 0 b + (max 0 d + 0))] := by
    unfold bxs
    rw [lh_zip, show rg 0 ([[a, b], [c, d]] : List (List Int)).length = [0, 1] from rfl] <;> rfl
  have key := (cnt2 (t1 := if ((0 : Nat) : Int) ∈ pl then 1 else 0) (t2 := if ((1 : Nat) : Int) ∈ pl then 1 else 0) hs hW).img (fun x : Int × Int => [x.1, x.2]) (fun p => (p.getD 0 0, p.getD 1 0)) (fun _ => rfl)
  refine key.len (boxF_nd _) fun y => ?_
  rw [List.mem_filter, lkept_iff C]
  show _ ∧ (∀ k, k < 2 → okW [[a, b], [c, d]] pl y k) ↔ _
  rw [all2]
  constructor
  · rintro ⟨h1, h2, h3⟩
    obtain ⟨x, y, rfl⟩ := len2 (bxs_len h1)
    unfold okW at h2 h3
    rw [eW, eK0] at h2
    rw [eW, eK1] at h3
    exact ⟨(x, y), ⟨h2, h3⟩, rfl⟩
  · rintro ⟨⟨x, y⟩, ⟨h2, h3⟩, rfl⟩
    refine ⟨?_, ?_, ?_⟩
    · have b2 := in_b h2
      have b3 := in_b h3
      dsimp only at b2 b3
      have c1 : sgn [[a, b], [c, d]] * dt2 a b c d * x = sgn [[a, b], [c, d]] * dt2 x y c d * a + sgn [[a, b], [c, d]] * dt2 a b x y * c := by
        unfold dt2
        grind
      have c2 : sgn [[a, b], [c, d]] * dt2 a b c d * y = sgn [[a, b], [c, d]] * dt2 x y c d * b + sgn [[a, b], [c, d]] * dt2 a b x y * d := by
        unfold dt2
        grind
      generalize sgn [[a, b], [c, d]] * dt2 a b c d = W at *
      generalize sgn [[a, b], [c, d]] * dt2 x y c d = m1 at *
      generalize sgn [[a, b], [c, d]] * dt2 a b x y = m2 at *
      rw [hb]
      refine step_mem (step_mem (a := []) (acc := [[]]) (List.mem_singleton.mpr rfl) ?_ ?_) ?_ ?_
      · refine Int.le_of_mul_le_mul_left ?_ hW
        have := ge_min (v := a) b2.1 b2.2
        have := ge_min (v := c) b3.1 b3.2
        rw [c1, Int.mul_add, Int.mul_add, Int.mul_zero]
        omega
      · refine Int.le_of_mul_le_mul_left ?_ hW
        have := le_max (v := a) b2.1 b2.2
        have := le_max (v := c) b3.1 b3.2
        rw [c1, Int.mul_add, Int.mul_add, Int.mul_zero]
        omega
      · refine Int.le_of_mul_le_mul_left ?_ hW
        have := ge_min (v := b) b2.1 b2.2
        have := ge_min (v := d) b3.1 b3.2
        rw [c2, Int.mul_add, Int.mul_add, Int.mul_zero]
        omega
      · refine Int.le_of_mul_le_mul_left ?_ hW
        have := le_max (v := b) b2.1 b2.2
        have := le_max (v := d) b3.1 b3.2
        rw [c2, Int.mul_add, Int.mul_add, Int.mul_zero]
        omega
    · unfold okW
      rw [eW, eK0]
      exact h2
    · unfold okW
      rw [eW, eK1]
      exact h3
theorem count3 {a b c d e f g h i : Int} (C : ConeOk apex [[a, b, c], [d, e, f], [g, h, i]] pl) : ((bxs [[a, b, c], [d, e, f], [g, h, i]]).filter (lkept [[a, b, c], [d, e, f], [g, h, i]] pl)).length = (dt a b c d e f g h i).natAbs := by
  generalize hvs : [[a, b, c], [d, e, f], [g, h, i]] = vs at C
  have hl : vs.length = 3 := by
    rw [← hvs] <;> rfl
  have hc : cols vs = [[a, d, g], [b, e, h], [c, f, i]] := by
    rw [cols, hl, show rg 0 3 = [0, 1, 2] from rfl, ← hvs] <;> rfl
  have eW : mixW vs = sgn vs * dt a b c d e f g h i := by
    rw [mixW_s, hc]
    show _ * (a * (e * i - h * f) - d * (b * i - h * c) + g * (b * f - e * c)) = _
    congr 1
    unfold dt
    grind
  have eK0 : ∀ x y z, mixK vs [x, y, z] 0 = sgn vs * dt x y z d e f g h i := fun x y z => by
    rw [mixK_s, hc]
    show _ * (x * (e * i - h * f) - d * (y * i - h * z) + g * (y * f - e * z)) = _
    congr 1
    unfold dt
    grind
  have eK1 : ∀ x y z, mixK vs [x, y, z] 1 = sgn vs * dt a b c x y z g h i := fun x y z => by
    rw [mixK_s, hc]
    show _ * (a * (y * i - h * z) - x * (b * i - h * c) + g * (b * z - y * c)) = _
    congr 1
    unfold dt
    grind
  have eK2 : ∀ x y z, mixK vs [x, y, z] 2 = sgn vs * dt a b c d e f x y z := fun x y z => by
    rw [mixK_s, hc]
    show _ * (a * (e * z - y * f) - d * (b * z - y * c) + x * (b * f - e * c)) = _
    congr 1
    unfold dt
    grind
  have hW := mixW_pos C
  rw [eW] at hW
  have hs := sgn_b (vs := vs)
  have hb : bxs vs = boxPts [(min 0 a + (min 0 d + (min 0 g + 0)), max 0 a + (max 0 d + (max 0 g + 0))), (min 0 b + (min 0 e + (min 0 h + 0)), max 0 b + (max 0 e + (max 0 h + 0))), (min 0 c + (min 0 f + (min 0 i + 0)), max 0 c + (max 0 f + (max 0 i + 0)))] := by
    unfold bxs
    rw [lh_zip, hl, show rg 0 3 = [0, 1, 2] from rfl, ← hvs] <;> rfl
  have key := (cnt3 (t1 := if ((0 : Nat) : Int) ∈ pl then 1 else 0) (t2 := if ((1 : Nat) : Int) ∈ pl then 1 else 0) (t3 := if ((2 : Nat) : Int) ∈ pl then 1 else 0) hs hW).img (fun x : Int × Int × Int => [x.1, x.2.1, x.2.2]) (fun p => (p.getD 0 0, p.getD 1 0, p.getD 2 0)) (fun _ => rfl)
  refine key.len (boxF_nd _) fun y => ?_
  rw [List.mem_filter, lkept_iff C, hl, all3]
  constructor
  · rintro ⟨h1, h2, h3, h4⟩
    obtain ⟨x, y, z, rfl⟩ := len3 ((bxs_len h1).trans hl)
    unfold okW at h2 h3 h4
    rw [eW, eK0] at h2
    rw [eW, eK1] at h3
    rw [eW, eK2] at h4
    exact ⟨(x, y, z), ⟨h2, h3, h4⟩, rfl⟩
  · rintro ⟨⟨x, y, z⟩, ⟨h2, h3, h4⟩, rfl⟩
    refine ⟨?_, ?_, ?_, ?_⟩
    · have b2 := in_b h2
      have b3 := in_b h3
      have b4 := in_b h4
      dsimp only at b2 b3 b4
      have c1 : sgn vs * dt a b c d e f g h i * x = sgn vs * dt x y z d e f g h i * a + sgn vs * dt a b c x y z g h i * d + sgn vs * dt a b c d e f x y z * g := by
        unfold dt
        grind
      have c2 : sgn vs * dt a b c d e f g h i * y = sgn vs * dt x y z d e f g h i * b + sgn vs * dt a b c x y z g h i * e + sgn vs * dt a b c d e f x y z * h := by
        unfold dt
        grind
      have c3 : sgn vs * dt a b c d e f g h i * z = sgn vs * dt x y z d e f g h i * c + sgn vs * dt a b c x y z g h i * f + sgn vs * dt a b c d e f x y z * i := by
        unfold dt
        grind
      clear h2 h3 h4 key
      generalize sgn vs * dt a b c d e f g h i = W at *
      generalize sgn vs * dt x y z d e f g h i = m1 at *
      generalize sgn vs * dt a b c x y z g h i = m2 at *
      generalize sgn vs * dt a b c d e f x y z = m3 at *
      rw [hb]
      have lo : ∀ u v w : Int, W * (min 0 u + (min 0 v + (min 0 w + 0))) ≤ m1 * u + m2 * v + m3 * w := fun u v w => by
        have := ge_min (v := u) b2.1 b2.2
        have := ge_min (v := v) b3.1 b3.2
        have := ge_min (v := w) b4.1 b4.2
        rw [Int.mul_add, Int.mul_add, Int.mul_add, Int.mul_zero]
        omega
      have hi' : ∀ u v w : Int, m1 * u + m2 * v + m3 * w ≤ W * (max 0 u + (max 0 v + (max 0 w + 0))) := fun u v w => by
        have := le_max (v := u) b2.1 b2.2
        have := le_max (v := v) b3.1 b3.2
        have := le_max (v := w) b4.1 b4.2
        rw [Int.mul_add, Int.mul_add, Int.mul_add, Int.mul_zero]
        omega
      refine step_mem (step_mem (step_mem (a := []) (acc := [[]]) (List.mem_singleton.mpr rfl) ?_ ?_) ?_ ?_) ?_ ?_
      · refine Int.le_of_mul_le_mul_left ?_ hW
        rw [c1]
        exact lo _ _ _
      · refine Int.le_of_mul_le_mul_left ?_ hW
        rw [c1]
        exact hi' _ _ _
      · refine Int.le_of_mul_le_mul_left ?_ hW
        rw [c2]
        exact lo _ _ _
      · refine Int.le_of_mul_le_mul_left ?_ hW
        rw [c2]
        exact hi' _ _ _
      · refine Int.le_of_mul_le_mul_left ?_ hW
        rw [c3]
        exact lo _ _ _
      · refine Int.le_of_mul_le_mul_left ?_ hW
        rw [c3]
        exact hi' _ _ _
    · unfold okW
      rw [eW, eK0]
      exact h2
    · unfold okW
      rw [eW, eK1]
      exact h3
    · unfold okW
      rw [eW, eK2]
      exact h4
theorem box_count (C : ConeOk apex vs pl) : (lboxOf apex vs pl).length = (det vs).natAbs := by
  unfold lboxOf
  rw [List.length_map]
  rcases sq_cases C.sq with rfl | ⟨a, rfl⟩ | ⟨a, b, c, d, rfl⟩ | ⟨a, b, c, d, e, f, g, h, i, rfl⟩
  · exact absurd C.n1 (by simp)
  · exact count1 C
  · exact count2 C
  · exact count3 C
end
end
end Lk
set_option Elab.async false
set_option linter.all false
set_option maxRecDepth 100000
set_option maxHeartbeats 4000000
namespace Lk
open PySem PySem.Spec PyProof.Rows L2 RZ
open Evl (Ex)
section
variable {P : Program} {w : World} {K : PySem.W.Frag} {mg : Str → Option Value} {base : Heap}
/-! law -/
theorem gx_drawX {r : Addr} {m : Md} {ds : List Ent} {i : Nat} {ta : TA} {Pa : List D → Prop} {Pre : List D → Prop} {R : List D → D → Prop} {E : XK} (W : RowMd K r m) (h0 : ds[i]? = some (.raw (.ref r))) (ga : GAX m ta ds Pa) (hp : ∀ as, Pa as → Pre as) :
    GX m (tCall (spW K Pre R) [] E (tCons (tVar i) ta)) ds (fun d => ∃ as, Pa as ∧ R as d) := fun σ H Es Q q => by
  obtain ⟨x, e, hx⟩ := Es.sl i _ h0
  have hx : x = some (.ref r) := hx
  subst hx
  refine ⟨.ref r, e, ga σ H Es _ fun as vs H1 hpa x1 j1 i1 => ?_⟩
  refine ⟨m.o, r, as, vs, by simp, W.ro, m.jl _ j1, W.ok _ j1, i1, hp as hpa, fun d v H2 hR off ok iv => ?_⟩
  exact q d v H2 ⟨as, hpa, hR⟩ (x1.trans (off.v W.ro)) (W.st _ _ off ok j1) iv
theorem q_new {ta : TA} {i : Nat} {tz : TS} {DD : Ends} {σ : L2.St} {H : Hp} (h : ta σ H (fun xs H1 => xs.length ≤ sizeLine ∧ ∀ p, H1 p = none → tz DD (σ.set i (some (.ref p))) (upd H1 p (.lst xs)))) : tSeq (tAsg (tLst ta) (gName i)) tz DD σ H := h
def spLaw (K : PySem.W.Frag) : Sp := fun vs H Q _ => ∃ (sc : Addr) (ns : List Int), vs = [.ref sc] ∧ Scr K H sc ns ∧ ∀ H', Q (.bl true) H'
theorem aok_box {xss : List (List Int)} {n : Nat} (hl : xss.length ≤ 1000) (hn : n ≤ 3) (h : ∀ p ∈ xss, p.length = n) : AOk 3 (.tup (xss.map tI)) := by
  refine ⟨by rw [List.length_map]; exact hl, fun y hy => ?_⟩
  obtain ⟨p, hp, rfl⟩ := List.mem_map.mp hy
  refine ⟨by rw [List.length_map, h p hp]; omega, fun z hz => ?_⟩
  obtain ⟨x, _, rfl⟩ := List.mem_map.mp hz
  trivial
abbrev s_law : Stmt := topS 35
theorem sc_law : FnScope ["_law_script", "_law_row", "_law_cone_here", "_law_due", "_law_whole", "_law_one"] ["_law_script"] (defScope s_law) := ⟨rfl, rfl, rfl, by decide +kernel, rfl, by decide +kernel, by decide +kernel⟩
theorem ok_law {f : Addr} {fd : FuncData} (F : Fun K "law" "law" s_law f fd) (T : Top mg)
    (h_law_cone : Has P w K mg base "_law_cone" ["_law_row", "_law_far"] 6 (spW K Pre_law_cone R_law_cone)) (h_law_pick : Has P w K mg base "_law_pick" ["_law_row", "_law_things"] 2 (spW K Pre_law_pick R_law_pick))
    (h_law_cone_box : Has P w K mg base "_law_cone_box" ["_law_cone_here"] 6 (spR R_law_cone_box)) (h_law_determinant : Has P w K mg base "_law_determinant" ["_law_rows"] 4 (spR R_law_determinant))
    (h_law_alike : Has P w K mg base "_law_alike" ["_law_found", "_law_due"] 3 (spR R_law_alike)) (h_cone_box : Has P w K mg base "cone_box" ["cone"] 7 (spR R_cone_box)) : FnOk P w K mg base CX0 8 f fd ["_law_script"] (spLaw K) := by
  have nd := sc_law.nd
  refine F.ok sc_law (fun vs H Q E h => ?_) (fun cdv A outer s H vs Q E hr h => ?_)
  · obtain ⟨a, ns, rfl, _⟩ := h
    rfl
  obtain ⟨sc, ns, rfl, hsc, q⟩ := h
  refine ⟨_, (pss_cons (ps_set (i := 1) nd rfl (Or.inl rfl) (pe_lst (pa_cons (pv 0) (pa_cons pe_int (pa_cons pe_int (pa_cons pe_int pa_nil))))))
      (pss_cons (ps_set (i := 2) nd rfl (Or.inl rfl) (pe_callH h_law_cone hr (by decide) (by rfl) (pa_cons (pv 1) (pa_cons (pe_callH h_law_pick hr (by decide) (by rfl) (pa_cons (pv 1) (pa_cons (pe_lst (pa_cons pe_int (pa_cons pe_int (pa_cons pe_int pa_nil)))) pa_nil))) pa_nil))))
      (pss_cons (ps_set (i := 3) nd rfl (Or.inl rfl) (pe_callH h_law_cone_box hr (by decide) (by rfl) (pa_cons (pv 2) pa_nil)))
      (pss_cons (ps_set (i := 4) nd rfl (Or.inl rfl) (pe_callB call_abs (by rfl) T.abs bt_abs (pa_cons (pe_callH h_law_determinant hr (by decide) (by rfl) (pa_cons (pe_lc (own := [("_law_one", 5)]) (g := gName 5) (by rfl) nd (pik_tup K (pe_ix (ixk K) (pv 2) pe_int (fun _ _ => rfl))) (blkOk_by (own := [("_law_one", 5)]) (by kernel_rfl)) (fun _ _ _ _ _ => (pg_name (i := 5) nd rfl (Or.inl rfl))) (fun _ _ _ _ _ => pts_nil) (fun _ _ _ _ _ => (pe_callTy (ck_list K) (by rfl) T.list bt_list (pa_cons (pv 5) pa_nil)))) pa_nil)) pa_nil)))
      (pss_one (ps_ret (pe_and (pe_callH h_law_alike hr (by decide) (by rfl) (pa_cons (pe_callH h_cone_box hr (by decide) (by rfl) (pa_cons (pv 2) pa_nil)) (pa_cons (pe_callTy (ck_tuple K) (by rfl) T.tuple bt_tuple (pa_cons (pv 3) pa_nil)) pa_nil))) (pe_one (pe_cmpR (opk_eq K (hu64 hr)) (pe_callB (ck_len K) (by rfl) T.len bt_len (pa_cons (pv 3) pa_nil)) (pv 4) (nomark _)))))))))), ?_⟩
  refine q_new ⟨.ref sc, rfl, by show 4 ≤ sizeLine; decide, fun p hp => ?_⟩
  have hok : RowOk K p (upd H p (.lst [.ref sc, .int 0, .int 3348, .int 0])) := ⟨sc, ns, [0, 3348, 0], ⟨upd_same, hsc.ex (Ex.new hp)⟩, 0, 3348, 0, rfl, by decide, by decide, by decide, by decide⟩
  have W : RowMd K p (Md.rowM K [p] p (upd H p (.lst [.ref sc, .int 0, .int 3348, .int 0]))) := rowM_md (List.mem_cons_self)
  have j0 : (Md.rowM K [p] p (upd H p (.lst [.ref sc, .int 0, .int 3348, .int 0]))).J (upd H p (.lst [.ref sc, .int 0, .int 3348, .int 0])) := ⟨hok, fun a ha n => absurd (List.mem_singleton.mp ha) n⟩
  have E1 := ((sl_startW (m := Md.rowM K [p] p (upd H p (.lst [.ref sc, .int 0, .int 3348, .int 0]))) (N := ["_law_script", "_law_row", "_law_cone_here", "_law_due", "_law_whole", "_law_one"]) (vs := []) (as := []) (r := sc) (by decide) rfl j0).set (i := 1) (x := some (.ref p)) (e := .raw (.ref p)) rfl).env
  refine q_asgX E1 (gx_drawX (i := 1) W rfl (gax_one (gx_draw (i := 1) W rfl (ga_cons (g_lst (as := [.int 1, .int 2, .int 3]) (ga_cons g_int (ga_cons g_int (ga_cons g_int ga_nil))) (by simp)) ga_nil) rfl)) ?_) fun d σ2 H2 hd E2 => ?_
  · rintro as ⟨d, rfl, x, rfl, h1, h2⟩
    exact ⟨x, rfl, h1, h2⟩
  obtain ⟨as, _, apex, vs, pl, rfl, C⟩ := hd
  refine q_asg E2 (g_call (ga_cons (g_var rfl) ga_nil) ⟨apex, vs, pl, rfl, C, rfl⟩) fun σ3 H3 E3 => ?_
  refine q_asg E3 (g_cb (ga_cons (g_call (ga_cons (G.is (g_lcA (zs := vs) (e := tI) (u := fun z ds => ds.set 5 (.im (tI z))) lI (gi_tup (g_op (g_var rfl) g_int (o2_ixT (by decide) rfl))) (by have := C.n3; omega) (fun z _ => tg_name) (fun p acc z _ => g_cb (ga_cons (g_var rfl) ga_nil) onk_listT)) rfl) ga_nil) ⟨vs, rfl, C.sq, by have := C.n3; omega, rfl⟩) ga_nil) on_abs) fun σ4 H4 E4 => ?_
  have hbox : boxOf apex vs pl = lboxOf apex vs pl := box_same C
  have hcount : (lboxOf apex vs pl).length = (det vs).natAbs := box_count C
  have hl := boxF_len (apex := apex) (vs := vs) C.al (lkept vs pl)
  have hc : (lboxOf apex vs pl).length ≤ 1000 := by
    unfold lboxOf
    rw [List.length_map]
    exact Nat.le_trans (List.length_filter_le _ _) (bxs_count C)
  refine s_ret (d := .bl true) E4 (G.is (g_andV (g_call (ga_cons (g_call (ga_cons (g_var rfl) ga_nil) ⟨apex, vs, pl, rfl, C, rfl⟩) (ga_cons (g_cb (ga_cons (g_var rfl) ga_nil) onk_tupL) ga_nil)) ⟨.tup ((lboxOf apex vs pl).map tI), by rw [hbox], aok_box hc C.n3 hl, rfl⟩) fun _ => g_op (g_cb (ga_cons (g_var rfl) ga_nil) onk_lenL) (g_var rfl) o2_eqI) ?_) fun v H' _ _ iv => ?_
  · rw [List.length_map, hcount]
    simp
  · have iv : v = .bl true := iv
    rw [iv]
    exact q H'
end
end Lk
set_option Elab.async false
set_option linter.all false
set_option maxRecDepth 100000
set_option maxHeartbeats 4000000
namespace Lk
open PySem PySem.Spec PyProof.Rows L2 RZ
open Evl (Ex)
section
variable {P : Program} {w : World} {K : PySem.W.Frag} {mg : Str → Option Value} {base : Heap}
theorem top_mk {K : PySem.W.Frag} {h : Heap} {mg : Str → Option Value} (X : K.In h) (G : h.Ns mainGlobals mg) (z_len : PySem.W.nsIn K mainGlobals "len" = some none) (z_abs : PySem.W.nsIn K mainGlobals "abs" = some none) (z_min : PySem.W.nsIn K mainGlobals "min" = some none) (z_max : PySem.W.nsIn K mainGlobals "max" = some none) (z_sum : PySem.W.nsIn K mainGlobals "sum" = some none) (z_sorted : PySem.W.nsIn K mainGlobals "sorted" = some none) (z_isinstance : PySem.W.nsIn K mainGlobals "isinstance" = some none) (z_int : PySem.W.nsIn K mainGlobals "int" = some none) (z_bool : PySem.W.nsIn K mainGlobals "bool" = some none) (z_str : PySem.W.nsIn K mainGlobals "str" = some none) (z_list : PySem.W.nsIn K mainGlobals "list" = some none) (z_tuple : PySem.W.nsIn K mainGlobals "tuple" = some none) (z_set : PySem.W.nsIn K mainGlobals "set" = some none) (z_range : PySem.W.nsIn K mainGlobals "range" = some none) (z_zip : PySem.W.nsIn K mainGlobals "zip" = some none) {t1 t2 : Tok} (z_far : PySem.W.nsIn K mainGlobals "FAR" = some (some (.int 50 t1))) (z_farA : PySem.W.nsIn K mainGlobals "FAR_APEX" = some (some (.int 1000 t2))) : Top mg :=
  { len := PySem.W.mg_none_of X G z_len, abs := PySem.W.mg_none_of X G z_abs, min := PySem.W.mg_none_of X G z_min, max := PySem.W.mg_none_of X G z_max, sum := PySem.W.mg_none_of X G z_sum, sorted := PySem.W.mg_none_of X G z_sorted, isinstance := PySem.W.mg_none_of X G z_isinstance, int := PySem.W.mg_none_of X G z_int, bool := PySem.W.mg_none_of X G z_bool, str := PySem.W.mg_none_of X G z_str, list := PySem.W.mg_none_of X G z_list, tuple := PySem.W.mg_none_of X G z_tuple, set := PySem.W.mg_none_of X G z_set, range := PySem.W.mg_none_of X G z_range, zip := PySem.W.mg_none_of X G z_zip, far := ⟨t1, PySem.W.mg_of X G z_far⟩, farA := ⟨t2, PySem.W.mg_of X G z_farA⟩ }
/-- what the top leaves of a def -/
structure DefAt (K : PySem.W.Frag) (x : Str) (st : Stmt) (f : Addr) (fd : FuncData) : Prop where
  ns : PySem.W.nsIn K mainGlobals x = some (some (.ref f))
  fn : Fun K x x st f fd
theorem defAt_mk {K : PySem.W.Frag} {x : Str} {st : Stmt} {f : Addr} {od an : Option Addr} {sl : Array (Option Value)} {oc kV dc pm cd ct : Value}
    (a : PySem.W.nsIn K mainGlobals x = some (some (.ref f))) (l : K.lookup f = some ⟨oc, od, .func (PySem.W.fnOf x x (defArgs st) (defBody st) (defScope st) .none kV dc pm an cd ct), sl⟩) (c : PySem.W.codeIn K cd x = true) (k : PySem.W.keepIn K (.ref f) = true) :
    DefAt K x st f (PySem.W.fnOf x x (defArgs st) (defBody st) (defScope st) .none kV dc pm an cd ct) := ⟨a, fun_mk l c k⟩
theorem all_mk {l : PySem.W.OpenLaw} {w : World} {K : PySem.W.Frag} {h : Heap} {mg : Str → Option Value} {fa : Addr} (X : K.In h) (G : h.Ns mainGlobals mg) (hfa : mg "law" = some (.ref fa)) (T : Top mg)
    {f0 : Addr} {fd0 : FuncData} (d0 : DefAt K "is_in" s_is_in f0 fd0) {f1 : Addr} {fd1 : FuncData} (d1 : DefAt K "gcd" s_gcd f1 fd1) {f2 : Addr} {fd2 : FuncData} (d2 : DefAt K "reduced" s_reduced f2 fd2) {f3 : Addr} {fd3 : FuncData} (d3 : DefAt K "more" s_more f3 fd3) {f4 : Addr} {fd4 : FuncData} (d4 : DefAt K "determinant" s_determinant f4 fd4) {f5 : Addr} {fd5 : FuncData} (d5 : DefAt K "primitive" s_primitive f5 fd5) {f6 : Addr} {fd6 : FuncData} (d6 : DefAt K "is_vector" s_is_vector f6 fd6) {f7 : Addr} {fd7 : FuncData} (d7 : DefAt K "cramer" s_cramer f7 fd7) {f8 : Addr} {fd8 : FuncData} (d8 : DefAt K "box_points" s_box_points f8 fd8) {f9 : Addr} {fd9 : FuncData} (d9 : DefAt K "need_cone" s_need_cone f9 fd9) {f10 : Addr} {fd10 : FuncData} (d10 : DefAt K "weights_of" s_weights_of f10 fd10) {f11 : Addr} {fd11 : FuncData} (d11 : DefAt K "is_kept" s_is_kept f11 fd11) {f12 : Addr} {fd12 : FuncData} (d12 : DefAt K "box_of" s_box_of f12 fd12) {f13 : Addr} {fd13 : FuncData} (d13 : DefAt K "cone_box" s_cone_box f13 fd13) {f14 : Addr} {fd14 : FuncData} (d14 : DefAt K "_law_taken" s_law_taken f14 fd14) {f15 : Addr} {fd15 : FuncData} (d15 : DefAt K "_law_signed" s_law_signed f15 fd15) {f16 : Addr} {fd16 : FuncData} (d16 : DefAt K "_law_gcd" s_law_gcd f16 fd16) {f17 : Addr} {fd17 : FuncData} (d17 : DefAt K "_law_subsets" s_law_subsets f17 fd17) {f18 : Addr} {fd18 : FuncData} (d18 : DefAt K "_law_determinant" s_law_determinant f18 fd18) {f19 : Addr} {fd19 : FuncData} (d19 : DefAt K "_law_minors" s_law_minors f19 fd19) {f20 : Addr} {fd20 : FuncData} (d20 : DefAt K "_law_cone" s_law_cone f20 fd20) {f21 : Addr} {fd21 : FuncData} (d21 : DefAt K "_law_pick" s_law_pick f21 fd21) {f22 : Addr} {fd22 : FuncData} (d22 : DefAt K "_law_mix" s_law_mix f22 fd22) {f23 : Addr} {fd23 : FuncData} (d23 : DefAt K "_law_cone_box" s_law_cone_box f23 fd23) {f24 : Addr} {fd24 : FuncData} (d24 : DefAt K "_law_alike" s_law_alike f24 fd24) {f25 : Addr} {fd25 : FuncData} (d25 : DefAt K "law" s_law f25 fd25)
    (hb : ∀ (s : Shared) (v : Value), BindsTo s fd25 ⟨[v], []⟩ [("_law_script", v)]) :
    ∃ fd : FuncData, (∀ (s : Shared) (v : Value), BindsTo s fd ⟨[v], []⟩ [("_law_script", v)]) ∧ ∀ base : Heap, K.In base → base.Ns mainGlobals mg → FnOk l.prog w K mg base CX0 8 fa fd ["_law_script"] (spLaw K) := by
  have e := hfa.symm.trans (PySem.W.mg_of X G d25.ns)
  cases e
  refine ⟨fd25, hb, fun base _ _ => ?_⟩
  have b0 := d0.fn.binds (ps := ["value", "least", "most"]) fun _ _ _ _ _ _ us hl => match us, hl with | [_, _, _], _ => rfl
  have b1 := d1.fn.binds (ps := ["one", "other"]) fun _ _ _ _ _ _ us hl => match us, hl with | [_, _], _ => rfl
  have b2 := d2.fn.binds (ps := ["numerator", "denominator"]) fun _ _ _ _ _ _ us hl => match us, hl with | [_, _], _ => rfl
  have b3 := d3.fn.binds (ps := ["one", "other"]) fun _ _ _ _ _ _ us hl => match us, hl with | [_, _], _ => rfl
  have b4 := d4.fn.binds (ps := ["rows"]) fun _ _ _ _ _ _ us hl => match us, hl with | [_], _ => rfl
  have b5 := d5.fn.binds (ps := ["one"]) fun _ _ _ _ _ _ us hl => match us, hl with | [_], _ => rfl
  have b6 := d6.fn.binds (ps := ["value", "size", "low", "high"]) fun _ _ _ _ _ _ us hl => match us, hl with | [_, _, _, _], _ => rfl
  have b7 := d7.fn.binds (ps := ["rows", "right"]) fun _ _ _ _ _ _ us hl => match us, hl with | [_, _], _ => rfl
  have b8 := d8.fn.binds (ps := ["low", "high"]) fun _ _ _ _ _ _ us hl => match us, hl with | [_, _], _ => rfl
  have b9 := d9.fn.binds (ps := ["cone"]) fun _ _ _ _ _ _ us hl => match us, hl with | [_], _ => rfl
  have b10 := d10.fn.binds (ps := ["vectors", "way"]) fun _ _ _ _ _ _ us hl => match us, hl with | [_, _], _ => rfl
  have b11 := d11.fn.binds (ps := ["weight", "is_open"]) fun _ _ _ _ _ _ us hl => match us, hl with | [_, _], _ => rfl
  have b12 := d12.fn.binds (ps := ["cone"]) fun _ _ _ _ _ _ us hl => match us, hl with | [_], _ => rfl
  have b13 := d13.fn.binds (ps := ["cone"]) fun _ _ _ _ _ _ us hl => match us, hl with | [_], _ => rfl
  have b14 := d14.fn.binds (ps := ["_law_row", "_law_many"]) fun _ _ _ _ _ _ us hl => match us, hl with | [_, _], _ => rfl
  have b15 := d15.fn.binds (ps := ["_law_row", "_law_most"]) fun _ _ _ _ _ _ us hl => match us, hl with | [_, _], _ => rfl
  have b16 := d16.fn.binds (ps := ["_law_one", "_law_other"]) fun _ _ _ _ _ _ us hl => match us, hl with | [_, _], _ => rfl
  have b17 := d17.fn.binds (ps := ["_law_many", "_law_size"]) fun _ _ _ _ _ _ us hl => match us, hl with | [_, _], _ => rfl
  have b18 := d18.fn.binds (ps := ["_law_rows"]) fun _ _ _ _ _ _ us hl => match us, hl with | [_], _ => rfl
  have b19 := d19.fn.binds (ps := ["_law_rows", "_law_size"]) fun _ _ _ _ _ _ us hl => match us, hl with | [_, _], _ => rfl
  have b20 := d20.fn.binds (ps := ["_law_row", "_law_far"]) fun _ _ _ _ _ _ us hl => match us, hl with | [_, _], _ => rfl
  have b21 := d21.fn.binds (ps := ["_law_row", "_law_things"]) fun _ _ _ _ _ _ us hl => match us, hl with | [_, _], _ => rfl
  have b22 := d22.fn.binds (ps := ["_law_vectors", "_law_way"]) fun _ _ _ _ _ _ us hl => match us, hl with | [_, _], _ => rfl
  have b23 := d23.fn.binds (ps := ["_law_cone_here"]) fun _ _ _ _ _ _ us hl => match us, hl with | [_], _ => rfl
  have b24 := d24.fn.binds (ps := ["_law_found", "_law_due"]) fun _ _ _ _ _ _ us hl => match us, hl with | [_, _], _ => rfl
  have H_is_in := ok_is_in (P := l.prog) (w := w) (base := base) d0.fn b0 (PySem.W.mg_of X G d0.ns) T 
  have H_gcd := ok_gcd (P := l.prog) (w := w) (base := base) d1.fn b1 (PySem.W.mg_of X G d1.ns) T 
  have H_reduced := ok_reduced (P := l.prog) (w := w) (base := base) d2.fn b2 (PySem.W.mg_of X G d2.ns) T H_gcd
  have H_more := ok_more (P := l.prog) (w := w) (base := base) d3.fn b3 (PySem.W.mg_of X G d3.ns) T 
  have H_determinant := ok_determinant (P := l.prog) (w := w) (base := base) d4.fn b4 (PySem.W.mg_of X G d4.ns) T  3
  have H_primitive := ok_primitive (P := l.prog) (w := w) (base := base) d5.fn b5 (PySem.W.mg_of X G d5.ns) T H_gcd
  have H_is_vector := ok_is_vector (P := l.prog) (w := w) (base := base) d6.fn b6 (PySem.W.mg_of X G d6.ns) T H_is_in
  have H_cramer := ok_cramer (P := l.prog) (w := w) (base := base) d7.fn b7 (PySem.W.mg_of X G d7.ns) T H_determinant H_reduced
  have H_box_points := ok_box_points (P := l.prog) (w := w) (base := base) d8.fn b8 (PySem.W.mg_of X G d8.ns) T 
  have H_need_cone := ok_need_cone (P := l.prog) (w := w) (base := base) d9.fn b9 (PySem.W.mg_of X G d9.ns) T H_determinant H_is_vector H_primitive H_is_in
  have H_weights_of := ok_weights_of (P := l.prog) (w := w) (base := base) d10.fn b10 (PySem.W.mg_of X G d10.ns) T H_cramer
  have H_is_kept := ok_is_kept (P := l.prog) (w := w) (base := base) d11.fn b11 (PySem.W.mg_of X G d11.ns) T 
  have H_box_of := ok_box_of (P := l.prog) (w := w) (base := base) d12.fn b12 (PySem.W.mg_of X G d12.ns) T H_box_points H_weights_of H_more H_is_kept
  have H_cone_box := ok_cone_box (P := l.prog) (w := w) (base := base) d13.fn b13 (PySem.W.mg_of X G d13.ns) T H_need_cone H_box_of
  have H_law_taken := ok_law_taken (P := l.prog) (w := w) (base := base) d14.fn b14 (PySem.W.mg_of X G d14.ns) T 
  have H_law_signed := ok_law_signed (P := l.prog) (w := w) (base := base) d15.fn b15 (PySem.W.mg_of X G d15.ns) T H_law_taken
  have H_law_gcd := ok_law_gcd (P := l.prog) (w := w) (base := base) d16.fn b16 (PySem.W.mg_of X G d16.ns) T 
  have H_law_subsets := ok_law_subsets (P := l.prog) (w := w) (base := base) d17.fn b17 (PySem.W.mg_of X G d17.ns) T 
  have H_law_determinant := ok_law_determinant (P := l.prog) (w := w) (base := base) d18.fn b18 (PySem.W.mg_of X G d18.ns) T  4
  have H_law_minors := ok_law_minors (P := l.prog) (w := w) (base := base) d19.fn b19 (PySem.W.mg_of X G d19.ns) T H_law_subsets H_law_gcd H_law_determinant
  have H_law_cone := ok_law_cone (P := l.prog) (w := w) (base := base) d20.fn b20 (PySem.W.mg_of X G d20.ns) T H_law_taken H_law_signed H_law_gcd H_law_minors
  have H_law_pick := ok_law_pick (P := l.prog) (w := w) (base := base) d21.fn b21 (PySem.W.mg_of X G d21.ns) T H_law_taken
  have H_law_mix := ok_law_mix (P := l.prog) (w := w) (base := base) d22.fn b22 (PySem.W.mg_of X G d22.ns) T H_law_determinant
  have H_law_cone_box := ok_law_cone_box (P := l.prog) (w := w) (base := base) d23.fn b23 (PySem.W.mg_of X G d23.ns) T H_law_mix
  have H_law_alike := ok_law_alike (P := l.prog) (w := w) (base := base) d24.fn b24 (PySem.W.mg_of X G d24.ns) T  3
  exact ok_law d25.fn T H_law_cone H_law_pick H_law_cone_box H_law_determinant H_law_alike H_cone_box
theorem spLaw_of {K : PySem.W.Frag} {H : Hp} {a : Addr} {ns : List Int} (hO : Only H) (hS : SqL K H a (ns.map V.int)) : spLaw K [.ref a] H (fun v _ => v = .bl true) fun _ _ _ => False := by
  refine ⟨a, ns, rfl, ?_, fun _ => rfl⟩
  rcases hS with (h | ⟨o, h⟩) | h
  · rcases hO a with z | ⟨o, xs, z⟩
    · rw [z] at h
      cases h
    · rw [z] at h
      cases h
  · exact .inl ⟨o, h⟩
  · exact .inr h
end
end Lk
open PySem PySem.W PyProof.Rows
set_option maxRecDepth 100000 in
set_option maxHeartbeats 0 in
theorem PySem.Challenge.cw_latticepoints_k48_whole_boxes_of_cones_holds : PySem.Challenge.rw_latticepoints_k48_whole_boxes_of_cones.Holds := by
  w_on; o_law; k_head; (case hw => w_witness2)
  k_fill
  refine L2.walk_of (l := PySem.Challenge.rw_latticepoints_k48_whole_boxes_of_cones) (n := 63) (k := 8) (x := "_law_script") (CX := fun _ => L2.CX0) (sp := fun w => Lk.spLaw _) rfl (by decide) rfl ⟨rfl, by decide, by decide⟩ (fun w h Y => PySem.W.kIn_of Y) ?F (fun w H a ns hl hO hS => Lk.spLaw_of hO hS) (fun _ _ _ _ _ h => h)
  case F =>
    intro w mg fa h KX G hmg
    refine' Lk.all_mk KX G hmg (Lk.top_mk KX G ?z_len ?z_abs ?z_min ?z_max ?z_sum ?z_sorted ?z_isinstance ?z_int ?z_bool ?z_str ?z_list ?z_tuple ?z_set ?z_range ?z_zip ?z_far ?z_farA) (Lk.defAt_mk ?a0 ?l0 ?c0 ?k0) (Lk.defAt_mk ?a1 ?l1 ?c1 ?k1) (Lk.defAt_mk ?a2 ?l2 ?c2 ?k2) (Lk.defAt_mk ?a3 ?l3 ?c3 ?k3) (Lk.defAt_mk ?a4 ?l4 ?c4 ?k4) (Lk.defAt_mk ?a5 ?l5 ?c5 ?k5) (Lk.defAt_mk ?a6 ?l6 ?c6 ?k6) (Lk.defAt_mk ?a7 ?l7 ?c7 ?k7) (Lk.defAt_mk ?a8 ?l8 ?c8 ?k8) (Lk.defAt_mk ?a9 ?l9 ?c9 ?k9) (Lk.defAt_mk ?a10 ?l10 ?c10 ?k10) (Lk.defAt_mk ?a11 ?l11 ?c11 ?k11) (Lk.defAt_mk ?a12 ?l12 ?c12 ?k12) (Lk.defAt_mk ?a13 ?l13 ?c13 ?k13) (Lk.defAt_mk ?a14 ?l14 ?c14 ?k14) (Lk.defAt_mk ?a15 ?l15 ?c15 ?k15) (Lk.defAt_mk ?a16 ?l16 ?c16 ?k16) (Lk.defAt_mk ?a17 ?l17 ?c17 ?k17) (Lk.defAt_mk ?a18 ?l18 ?c18 ?k18) (Lk.defAt_mk ?a19 ?l19 ?c19 ?k19) (Lk.defAt_mk ?a20 ?l20 ?c20 ?k20) (Lk.defAt_mk ?a21 ?l21 ?c21 ?k21) (Lk.defAt_mk ?a22 ?l22 ?c22 ?k22) (Lk.defAt_mk ?a23 ?l23 ?c23 ?k23) (Lk.defAt_mk ?a24 ?l24 ?c24 ?k24) (Lk.defAt_mk ?a25 ?l25 ?c25 ?k25) (fun s v => .of_eq rfl)
    (case a0 => k_is)
    (case l0 => k_is)
    (case c0 => k_is)
    (case k0 => k_is)
    (case a1 => k_is)
    (case l1 => k_is)
    (case c1 => k_is)
    (case k1 => k_is)
    (case a2 => k_is)
    (case l2 => k_is)
    (case c2 => k_is)
    (case k2 => k_is)
    (case a3 => k_is)
    (case l3 => k_is)
    (case c3 => k_is)
    (case k3 => k_is)
    (case a4 => k_is)
    (case l4 => k_is)
    (case c4 => k_is)
    (case k4 => k_is)
    (case a5 => k_is)
    (case l5 => k_is)
    (case c5 => k_is)
    (case k5 => k_is)
    (case a6 => k_is)
    (case l6 => k_is)
    (case c6 => k_is)
    (case k6 => k_is)
    (case a7 => k_is)
    (case l7 => k_is)
    (case c7 => k_is)
    (case k7 => k_is)
    (case a8 => k_is)
    (case l8 => k_is)
    (case c8 => k_is)
    (case k8 => k_is)
    (case a9 => k_is)
    (case l9 => k_is)
    (case c9 => k_is)
    (case k9 => k_is)
    (case a10 => k_is)
    (case l10 => k_is)
    (case c10 => k_is)
    (case k10 => k_is)
    (case a11 => k_is)
    (case l11 => k_is)
    (case c11 => k_is)
    (case k11 => k_is)
    (case a12 => k_is)
    (case l12 => k_is)
    (case c12 => k_is)
    (case k12 => k_is)
    (case a13 => k_is)
    (case l13 => k_is)
    (case c13 => k_is)
    (case k13 => k_is)
    (case a14 => k_is)
    (case l14 => k_is)
    (case c14 => k_is)
    (case k14 => k_is)
    (case a15 => k_is)
    (case l15 => k_is)
    (case c15 => k_is)
    (case k15 => k_is)
    (case a16 => k_is)
    (case l16 => k_is)
    (case c16 => k_is)
    (case k16 => k_is)
    (case a17 => k_is)
    (case l17 => k_is)
    (case c17 => k_is)
    (case k17 => k_is)
    (case a18 => k_is)
    (case l18 => k_is)
    (case c18 => k_is)
    (case k18 => k_is)
    (case a19 => k_is)
    (case l19 => k_is)
    (case c19 => k_is)
    (case k19 => k_is)
    (case a20 => k_is)
    (case l20 => k_is)
    (case c20 => k_is)
    (case k20 => k_is)
    (case a21 => k_is)
    (case l21 => k_is)
    (case c21 => k_is)
    (case k21 => k_is)
    (case a22 => k_is)
    (case l22 => k_is)
    (case c22 => k_is)
    (case k22 => k_is)
    (case a23 => k_is)
    (case l23 => k_is)
    (case c23 => k_is)
    (case k23 => k_is)
    (case a24 => k_is)
    (case l24 => k_is)
    (case c24 => k_is)
    (case k24 => k_is)
    (case a25 => k_is)
    (case l25 => k_is)
    (case c25 => k_is)
    (case k25 => k_is)
    (case z_len => k_is)
    (case z_abs => k_is)
    (case z_min => k_is)
    (case z_max => k_is)
    (case z_sum => k_is)
    (case z_sorted => k_is)
    (case z_isinstance => k_is)
    (case z_int => k_is)
    (case z_bool => k_is)
    (case z_str => k_is)
    (case z_list => k_is)
    (case z_tuple => k_is)
    (case z_set => k_is)
    (case z_range => k_is)
    (case z_zip => k_is)
    (case z_far => k_is)
    (case z_farA => k_is)
