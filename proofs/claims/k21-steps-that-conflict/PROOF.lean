import PyProof.Rows.All
import Wide.All
import OpenK.AllK
import Wide.FinOn
import HandS.ForMost
import HandS.ForExc
import HandS.TupAny
import HandS.Deep
import HandS.IsInst
import PySem.Challenge.RW_unbrokenruns_k21_steps_that_conflict
set_option Elab.async false
set_option linter.all false
set_option maxRecDepth 100000
set_option maxHeartbeats 4000000
/-! L3Core: values as trees (tuples, frozen lists, frozen dicts and instances are data), a map M of the objects that may still change; the readings of the hand layer over these. -/
namespace L3
open PySem PySem.Spec L2

/-- a value with what it holds -/
inductive W where
  | non | bl (b : Bool) | int (i : Int) | str (x : Str) | ty (n : String) | ref (a : Addr)
  | tup (l : List W) | lst (l : List W) | rol (l : List W) | dic (ks : List Key) (l : List W) | ins (C : Addr) (ns : List Str) (l : List W)
/-- an object that may change -/
inductive MO where
  | lst (l : List W) | dic (ks : List Key) (l : List W) | ins (C : Addr) (ns : List Str) (l : List W)
abbrev Mp := Addr → Option MO
def Mp.upd (M : Mp) (a : Addr) (o : MO) : Mp := fun b => if b = a then some o else M b
def Mp.del (M : Mp) (a : Addr) : Mp := fun b => if b = a then none else M b
theorem Mp.upd_same {M : Mp} {a : Addr} {o : MO} : M.upd a o a = some o := if_pos rfl
theorem Mp.upd_ne {M : Mp} {a b : Addr} {o : MO} (h : b ≠ a) : M.upd a o b = M b := if_neg h
theorem Mp.upd_upd {M : Mp} {a : Addr} {o u : MO} : (M.upd a o).upd a u = M.upd a u := by
  funext b; unfold Mp.upd; split <;> rfl
theorem Mp.del_upd {M : Mp} {a : Addr} {o : MO} (h : M a = none) : (M.upd a o).del a = M := by
  funext b; unfold Mp.upd Mp.del
  by_cases e : b = a
  · rw [if_pos e, e, h]
  · rw [if_neg e]; exact Mp.upd_ne e
theorem Mp.del_same {M : Mp} {a : Addr} : M.del a a = none := if_pos rfl
theorem Mp.del_ne {M : Mp} {a b : Addr} (h : b ≠ a) : M.del a b = M b := if_neg h

def KL (K : PySem.W.Frag) (a : Addr) (xs : List V) : Prop :=
  ∃ (o : Obj) (its : Array Value) (n : Nat), K.lookup a = some o ∧ o.cls = .type "list" ∧ o.dict = none ∧ o.data = .seq its n ∧ its.size ≤ sizeLine ∧ Vals xs its.toList
def KT (K : PySem.W.Frag) (a : Addr) (xs : List V) : Prop :=
  ∃ (o : Obj) (its : Array Value) (n : Nat), K.lookup a = some o ∧ o.cls = .type "tuple" ∧ o.data = .seq its n ∧ its.size ≤ sizeLine ∧ Vals xs its.toList

mutual
def RW (K : PySem.W.Frag) (H : Hp) (M : Mp) : W → V → Prop
  | .non, v => v = .non
  | .bl b, v => v = .bl b
  | .int i, v => v = .int i
  | .str x, v => v = .str x
  | .ty n, v => v = .ty n
  | .ref a, v => v = .ref a
  | .tup ws, v => ∃ a vs, v = .ref a ∧ ((Rd H a (.tup vs) ∧ M a = none) ∨ KT K a vs) ∧ RWs K H M ws vs
  | .lst ws, v => ∃ a vs, v = .ref a ∧ (H a = some (.lst vs) ∧ M a = none) ∧ RWs K H M ws vs
  | .rol ws, v => ∃ a vs, v = .ref a ∧ ((Rd H a (.lst vs) ∧ M a = none) ∨ KL K a vs) ∧ RWs K H M ws vs
  | .dic ks ws, v => ∃ a kvs, v = .ref a ∧ (H a = some (.dK kvs) ∧ M a = none) ∧ kvs.map (·.1) = ks ∧ RWs K H M ws (kvs.map (·.2))
  | .ins C ns ws, v => ∃ a dx fs, v = .ref a ∧ (H a = some (.ins C dx fs) ∧ M a = none) ∧ fs.map (·.1) = ns ∧ RWs K H M ws (fs.map (·.2))
def RWs (K : PySem.W.Frag) (H : Hp) (M : Mp) : List W → List V → Prop
  | [], vs => vs = []
  | w :: ws, vs => ∃ v r, vs = v :: r ∧ RW K H M w v ∧ RWs K H M ws r
end

/-- what is known for good stays -/
def Fr2 (H : Hp) (M : Mp) (H' : Hp) (M' : Mp) : Prop := ∀ a o, H a = some o → M a = none → H' a = some o ∧ M' a = none
theorem Fr2.refl {H : Hp} {M : Mp} : Fr2 H M H M := fun _ _ h n => ⟨h, n⟩
theorem Fr2.trans {H1 H2 H3 : Hp} {M1 M2 M3 : Mp} (f : Fr2 H1 M1 H2 M2) (g : Fr2 H2 M2 H3 M3) : Fr2 H1 M1 H3 M3 := fun a o h n =>
  let ⟨h2, n2⟩ := f a o h n
  g a o h2 n2
section
variable {K : PySem.W.Frag} {H H' : Hp} {M M' : Mp}
theorem Fr2.rd {a : Addr} {u : HO} (f : Fr2 H M H' M') (h : Rd H a u) (n : M a = none) : Rd H' a u ∧ M' a = none := by
  rcases h with h | ⟨o, h⟩
  · exact ⟨.inl (f _ _ h n).1, (f _ _ h n).2⟩
  · exact ⟨.inr ⟨o, (f _ _ h n).1⟩, (f _ _ h n).2⟩
mutual
theorem RW.mono (f : Fr2 H M H' M') : ∀ (w : W) {v : V}, RW K H M w v → RW K H' M' w v
  | .non, _, h => by simpa only [RW] using h
  | .bl _, _, h => by simpa only [RW] using h
  | .int _, _, h => by simpa only [RW] using h
  | .str _, _, h => by simpa only [RW] using h
  | .ty _, _, h => by simpa only [RW] using h
  | .ref _, _, h => by simpa only [RW] using h
  | .tup ws, _, h => by
    unfold RW at h ⊢
    obtain ⟨a, vs, e, h1, h2⟩ := h
    refine ⟨a, vs, e, ?_, RWs.mono f ws h2⟩
    rcases h1 with ⟨h, n⟩ | h
    · exact .inl (f.rd h n)
    · exact .inr h
  | .lst ws, _, h => by
    unfold RW at h ⊢
    obtain ⟨a, vs, e, ⟨h, n⟩, h2⟩ := h
    exact ⟨a, vs, e, f _ _ h n, RWs.mono f ws h2⟩
  | .rol ws, _, h => by
    unfold RW at h ⊢
    obtain ⟨a, vs, e, h1, h2⟩ := h
    refine ⟨a, vs, e, ?_, RWs.mono f ws h2⟩
    rcases h1 with ⟨h, n⟩ | h
    · exact .inl (f.rd h n)
    · exact .inr h
  | .dic ks ws, _, h => by
    unfold RW at h ⊢
    obtain ⟨a, vs, e, ⟨h, n⟩, hk, h2⟩ := h
    exact ⟨a, vs, e, f _ _ h n, hk, RWs.mono f ws h2⟩
  | .ins C ns ws, _, h => by
    unfold RW at h ⊢
    obtain ⟨a, dx, fs, e, ⟨h, n⟩, hk, h2⟩ := h
    exact ⟨a, dx, fs, e, f _ _ h n, hk, RWs.mono f ws h2⟩
theorem RWs.mono (f : Fr2 H M H' M') : ∀ (ws : List W) {vs : List V}, RWs K H M ws vs → RWs K H' M' ws vs
  | [], _, h => by simpa only [RWs] using h
  | w :: ws, _, h => by
    unfold RWs at h ⊢
    obtain ⟨v, r, e, h1, h2⟩ := h
    exact ⟨v, r, e, RW.mono f w h1, RWs.mono f ws h2⟩
end
theorem RWs.nil : RWs K H M [] [] := by unfold RWs; rfl
theorem RWs.cons {w : W} {v : V} {ws : List W} {vs : List V} (h : RW K H M w v) (t : RWs K H M ws vs) : RWs K H M (w :: ws) (v :: vs) := by unfold RWs; exact ⟨v, vs, rfl, h, t⟩
theorem RWs.length : ∀ {ws : List W} {vs : List V}, RWs K H M ws vs → ws.length = vs.length
  | [], _, h => by unfold RWs at h; rw [h] <;> rfl
  | w :: ws, _, h => by
    unfold RWs at h
    obtain ⟨v, r, e, _, h2⟩ := h
    rw [e, List.length_cons, List.length_cons, RWs.length h2]
theorem RWs.get : ∀ {ws : List W} {vs : List V} {i : Nat} {w : W}, RWs K H M ws vs → ws[i]? = some w → ∃ v, vs[i]? = some v ∧ RW K H M w v
  | [], _, i, w, _, e => by simp at e
  | w :: ws, _, 0, _, h, e => by
    unfold RWs at h
    obtain ⟨v, r, e', h1, _⟩ := h
    simp at e
    subst e
    exact ⟨v, by rw [e']; rfl, h1⟩
  | w :: ws, _, i + 1, x, h, e => by
    unfold RWs at h
    obtain ⟨v, r, e', _, h2⟩ := h
    obtain ⟨u, g1, g2⟩ := RWs.get (i := i) (w := x) h2 (by simpa using e)
    exact ⟨u, by rw [e']; simpa using g1, g2⟩
theorem RWs.get' : ∀ {ws : List W} {vs : List V} {i : Nat} {v : V}, RWs K H M ws vs → vs[i]? = some v → ∃ w, ws[i]? = some w ∧ RW K H M w v := fun {ws vs i v} h e => by
  have hl := h.length
  have hi : i < ws.length := by rw [hl]; exact (List.getElem?_eq_some_iff.mp e).1
  obtain ⟨u, h1, h2⟩ := h.get (List.getElem?_eq_getElem hi)
  rw [e] at h1
  cases h1
  exact ⟨_, List.getElem?_eq_getElem hi, h2⟩
theorem RWs.append : ∀ {ws xs : List W} {vs us : List V}, RWs K H M ws vs → RWs K H M xs us → RWs K H M (ws ++ xs) (vs ++ us)
  | [], _, _, _, h, h' => by unfold RWs at h; rw [h]; exact h'
  | w :: ws, _, _, _, h, h' => by
    unfold RWs at h
    obtain ⟨v, r, e, h1, h2⟩ := h
    rw [e]
    exact RWs.cons h1 (RWs.append h2 h')
theorem RWs.take : ∀ (n : Nat) {ws : List W} {vs : List V}, RWs K H M ws vs → RWs K H M (ws.take n) (vs.take n)
  | 0, _, _, _ => by rw [List.take_zero, List.take_zero]; exact RWs.nil
  | n + 1, [], _, h => by unfold RWs at h; rw [h]; exact RWs.nil
  | n + 1, w :: ws, _, h => by
    unfold RWs at h
    obtain ⟨v, r, e, h1, h2⟩ := h
    rw [e]
    exact RWs.cons h1 (RWs.take n h2)
theorem RWs.drop : ∀ (n : Nat) {ws : List W} {vs : List V}, RWs K H M ws vs → RWs K H M (ws.drop n) (vs.drop n)
  | 0, _, _, h => h
  | n + 1, [], _, h => by unfold RWs at h; rw [h]; exact RWs.nil
  | n + 1, w :: ws, _, h => by
    unfold RWs at h
    obtain ⟨v, r, e, h1, h2⟩ := h
    rw [e]
    exact RWs.drop n h2
theorem RWs.set : ∀ {ws : List W} {vs : List V} (i : Nat) {w : W} {v : V}, RWs K H M ws vs → RW K H M w v → RWs K H M (ws.set i w) (vs.set i v)
  | [], _, i, _, _, h, _ => by unfold RWs at h; rw [h]; exact RWs.nil
  | x :: ws, _, 0, _, _, h, h' => by
    unfold RWs at h
    obtain ⟨v, r, e, h1, h2⟩ := h
    rw [e]
    exact RWs.cons h' h2
  | x :: ws, _, i + 1, _, _, h, h' => by
    unfold RWs at h
    obtain ⟨v, r, e, h1, h2⟩ := h
    rw [e]
    exact RWs.cons h1 (RWs.set i h2 h')
theorem RWs.reverse : ∀ {ws : List W} {vs : List V}, RWs K H M ws vs → RWs K H M ws.reverse vs.reverse
  | [], _, h => by unfold RWs at h; rw [h]; exact RWs.nil
  | w :: ws, _, h => by
    unfold RWs at h
    obtain ⟨v, r, e, h1, h2⟩ := h
    rw [e, List.reverse_cons, List.reverse_cons]
    exact RWs.append (RWs.reverse h2) (RWs.cons h1 RWs.nil)

/-- what stands at an address of M -/
def RO (K : PySem.W.Frag) (H : Hp) (M : Mp) (a : Addr) : MO → Prop
  | .lst ws => ∃ vs, H a = some (.lst vs) ∧ RWs K H M ws vs
  | .dic ks ws => ∃ kvs, H a = some (.dK kvs) ∧ kvs.map (·.1) = ks ∧ RWs K H M ws (kvs.map (·.2))
  | .ins C ns ws => ∃ dx fs, H a = some (.ins C dx fs) ∧ fs.map (·.1) = ns ∧ RWs K H M ws (fs.map (·.2))
def Sim (K : PySem.W.Frag) (H : Hp) (M : Mp) : Prop := ∀ a o, M a = some o → RO K H M a o
theorem RO.ex {a : Addr} {o : MO} (h : RO K H M a o) : ∃ u, H a = some u := by
  cases o with
  | lst ws => obtain ⟨vs, e, _⟩ := h; exact ⟨_, e⟩
  | dic ks ws => obtain ⟨vs, e, _⟩ := h; exact ⟨_, e⟩
  | ins C ns ws => obtain ⟨dx, fs, e, _⟩ := h; exact ⟨_, e⟩
/-- the object itself stays, what it holds stays -/
theorem RO.mono {a : Addr} {o : MO} (f : Fr2 H M H' M') (ha : H' a = H a) (h : RO K H M a o) : RO K H' M' a o := by
  cases o with
  | lst ws => obtain ⟨vs, e, r⟩ := h; exact ⟨vs, ha.trans e, r.mono f⟩
  | dic ks ws => obtain ⟨vs, e, hk, r⟩ := h; exact ⟨vs, ha.trans e, hk, r.mono f⟩
  | ins C ns ws => obtain ⟨dx, fs, e, hk, r⟩ := h; exact ⟨dx, fs, ha.trans e, hk, r.mono f⟩
theorem Sim.no (S : Sim K H M) {p : Addr} (h : H p = none) : M p = none := by
  cases e : M p with
  | none => rfl
  | some o =>
    obtain ⟨u, q⟩ := (S p o e).ex
    rw [h] at q
    cases q
/-- a new object that nobody will change -/
theorem Fr2.fresh {p : Addr} {u : HO} (h : H p = none) : Fr2 H M (upd H p u) M := fun a o e n => ⟨by rw [upd_ne (ne_of_none e h)]; exact e, n⟩
theorem Sim.fresh {p : Addr} {u : HO} (S : Sim K H M) (h : H p = none) : Sim K (upd H p u) M := fun a o e => by
  obtain ⟨x, q⟩ := (S a o e).ex
  exact (S a o e).mono (Fr2.fresh h) (upd_ne (ne_of_none q h))
/-- a new object that may change -/
theorem Fr2.alloc {p : Addr} {u : HO} {m : MO} (h : H p = none) : Fr2 H M (upd H p u) (M.upd p m) := fun a o e n =>
  ⟨by rw [upd_ne (ne_of_none e h)]; exact e, by rw [Mp.upd_ne (ne_of_none e h)]; exact n⟩
theorem Sim.alloc {p : Addr} {u : HO} {m : MO} (S : Sim K H M) (h : H p = none) (r : RO K (upd H p u) (M.upd p m) p m) : Sim K (upd H p u) (M.upd p m) := fun a o e => by
  by_cases ha : a = p
  · subst ha
    rw [Mp.upd_same] at e
    cases e
    exact r
  · rw [Mp.upd_ne ha] at e
    exact (S a o e).mono (Fr2.alloc h) (upd_ne ha)
/-- an object of M changes -/
theorem Fr2.write {p : Addr} {u : HO} {m m' : MO} (h : M p = some m') : Fr2 H M (upd H p u) (M.upd p m) := fun a o e n => by
  have ha : a ≠ p := fun z => by rw [z, h] at n; cases n
  exact ⟨by rw [upd_ne ha]; exact e, by rw [Mp.upd_ne ha]; exact n⟩
theorem Sim.write {p : Addr} {u : HO} {m m' : MO} (S : Sim K H M) (h : M p = some m') (r : RO K (upd H p u) (M.upd p m) p m) : Sim K (upd H p u) (M.upd p m) := fun a o e => by
  by_cases ha : a = p
  · subst ha
    rw [Mp.upd_same] at e
    cases e
    exact r
  · rw [Mp.upd_ne ha] at e
    exact (S a o e).mono (Fr2.write h) (upd_ne ha)
/-- it will not change any more -/
theorem Fr2.del {p : Addr} : Fr2 H M H (M.del p) := fun a o e n => ⟨e, by unfold Mp.del; split <;> first | rfl | exact n⟩
theorem Sim.del {p : Addr} (S : Sim K H M) : Sim K H (M.del p) := fun a o e => by
  by_cases ha : a = p
  · subst ha
    rw [Mp.del_same] at e
    cases e
  · rw [Mp.del_ne ha] at e
    exact (S a o e).mono Fr2.del rfl
/-- the frozen value of an object -/
def MO.fz : MO → W
  | .lst l => .lst l
  | .dic ks l => .dic ks l
  | .ins C ns l => .ins C ns l
theorem RO.fz {p : Addr} {m : MO} (S : Sim K H M) (h : M p = some m) : RW K H (M.del p) m.fz (.ref p) := by
  have r := S p m h
  cases m with
  | lst ws =>
    obtain ⟨vs, e, q⟩ := r
    show RW K H (M.del p) (.lst ws) (.ref p)
    unfold RW
    exact ⟨p, vs, rfl, ⟨e, Mp.del_same⟩, q.mono Fr2.del⟩
  | dic ks ws =>
    obtain ⟨vs, e, hk, q⟩ := r
    show RW K H (M.del p) (.dic ks ws) (.ref p)
    unfold RW
    exact ⟨p, vs, rfl, ⟨e, Mp.del_same⟩, hk, q.mono Fr2.del⟩
  | ins C ns ws =>
    obtain ⟨dx, fs, e, hk, q⟩ := r
    show RW K H (M.del p) (.ins C ns ws) (.ref p)
    unfold RW
    exact ⟨p, dx, fs, rfl, ⟨e, Mp.del_same⟩, hk, q.mono Fr2.del⟩
end

/-! ### slots -/
abbrev SW := List (Option W)
def RSt (K : PySem.W.Frag) (H : Hp) (M : Mp) (τ : SW) (σ : St) : Prop := τ.length = σ.length ∧ ∀ (i : Nat) (w : W), τ[i]? = some (some w) → ∃ v, σ[i]? = some (some v) ∧ RW K H M w v
section
variable {K : PySem.W.Frag} {H H' : Hp} {M M' : Mp} {τ : SW} {σ : St}
theorem RSt.mono (f : Fr2 H M H' M') (r : RSt K H M τ σ) : RSt K H' M' τ σ := ⟨r.1, fun i w e => by
  obtain ⟨v, h1, h2⟩ := r.2 i w e
  exact ⟨v, h1, h2.mono f⟩⟩
theorem RSt.set (r : RSt K H M τ σ) (i : Nat) {w : W} {v : V} (h : RW K H M w v) : RSt K H M (τ.set i (some w)) (σ.set i (some v)) := ⟨by simp [r.1], fun j x e => by
  by_cases hj : j = i
  · subst hj
    have hi : j < τ.length := by
      have := (List.getElem?_eq_some_iff.mp e).1
      simpa using this
    rw [List.getElem?_set_self hi] at e
    cases e
    exact ⟨v, List.getElem?_set_self (by rw [← r.1]; exact hi), h⟩
  · rw [List.getElem?_set_ne (Ne.symm hj)] at e
    obtain ⟨u, h1, h2⟩ := r.2 j x e
    exact ⟨u, by rw [List.getElem?_set_ne (Ne.symm hj)]; exact h1, h2⟩⟩
/-- a slot's value described anew -/
theorem RSt.re (r : RSt K H M τ σ) (i : Nat) {w : W} (h : ∀ v, σ[i]? = some (some v) → RW K H M w v) (hs : ∃ v, σ[i]? = some (some v)) : RSt K H M (τ.set i (some w)) σ := ⟨by simp [r.1], fun j x e => by
  by_cases hj : j = i
  · subst hj
    have hi : j < τ.length := by
      have := (List.getElem?_eq_some_iff.mp e).1
      simpa using this
    rw [List.getElem?_set_self hi] at e
    cases e
    obtain ⟨v, hv⟩ := hs
    exact ⟨v, hv, h v hv⟩
  · rw [List.getElem?_set_ne (Ne.symm hj)] at e
    exact r.2 j x e⟩
theorem RSt.forget (r : RSt K H M τ σ) (i : Nat) : RSt K H M (τ.set i none) σ := ⟨by simp [r.1], fun j x e => by
  by_cases hj : j = i
  · subst hj
    have hi : j < τ.length := by
      have := (List.getElem?_eq_some_iff.mp e).1
      simpa using this
    rw [List.getElem?_set_self hi] at e
    cases e
  · rw [List.getElem?_set_ne (Ne.symm hj)] at e
    exact r.2 j x e⟩
end

theorem le_line {n : Nat} (h : n ≤ 100000) : n ≤ sizeLine := by rw [sizeLine_eq]; omega
theorem lt_line {n : Nat} (h : n ≤ 100000) : n < sizeLine := by rw [sizeLine_eq]; omega
/-! ### readings -/
abbrev WK := W → Mp → Prop
abbrev WE := SW → Mp → WK → Prop
abbrev WT := SW → Mp → (Bool → Mp → Prop) → Prop
abbrev WA := SW → Mp → (List W → Mp → Prop) → Prop
structure WEnds where
  nx : SW → Mp → Prop
  rt : WK
  bk : SW → Mp → Prop := fun _ _ => False
  ct : SW → Mp → Prop := fun _ _ => False
abbrev WS := WEnds → SW → Mp → Prop
/-- where one stands: the written part, the entry -/
structure BB where
  K : PySem.W.Frag
  H0 : Hp
  M0 : Mp
/-- the state of now -/
structure Now (B : BB) (H : Hp) (M : Mp) : Prop where
  sim : Sim B.K H M
  fr : Fr2 B.H0 B.M0 H M
section
variable {B : BB} {H H' : Hp} {M M' : Mp}
theorem Now.to (n : Now B H M) (s : Sim B.K H' M') (f : Fr2 H M H' M') : Now B H' M' := ⟨s, n.fr.trans f⟩
theorem Now.fresh (n : Now B H M) {p : Addr} {u : HO} (h : H p = none) : Now B (upd H p u) M := n.to (n.sim.fresh h) (Fr2.fresh h)
end
def LE (B : BB) (t : WE) : TE := fun σ H Q => ∃ τ M Q', Now B H M ∧ RSt B.K H M τ σ ∧ t τ M Q' ∧ ∀ w M' v H', Now B H' M' → Fr2 H M H' M' → RW B.K H' M' w v → Q' w M' → Q v H'
def LT (B : BB) (t : WT) : TT := fun σ H Q => ∃ τ M Q', Now B H M ∧ RSt B.K H M τ σ ∧ t τ M Q' ∧ ∀ b M' H', Now B H' M' → Fr2 H M H' M' → Q' b M' → Q b H'
def LA (B : BB) (t : WA) : TA := fun σ H Q => ∃ τ M Q', Now B H M ∧ RSt B.K H M τ σ ∧ t τ M Q' ∧ ∀ ws M' vs H', Now B H' M' → Fr2 H M H' M' → RWs B.K H' M' ws vs → Q' ws M' → Q vs H'
def LV (B : BB) (H : Hp) (M : Mp) (q : SW → Mp → Prop) (Q : St → Hp → Prop) : Prop := ∀ τ' M' σ' H', Now B H' M' → Fr2 H M H' M' → RSt B.K H' M' τ' σ' → q τ' M' → Q σ' H'
structure LD (B : BB) (H : Hp) (M : Mp) (D' : WEnds) (D : Ends) : Prop where
  nx : LV B H M D'.nx D.nx
  bk : LV B H M D'.bk D.bk
  ct : LV B H M D'.ct D.ct
  rt : ∀ w M' v H', Now B H' M' → Fr2 H M H' M' → RW B.K H' M' w v → D'.rt w M' → D.rt v H'
def LS (B : BB) (t : WS) : TS := fun D σ H => ∃ τ M D', Now B H M ∧ RSt B.K H M τ σ ∧ t D' τ M ∧ LD B H M D' D
section
variable {B : BB} {H H' : Hp} {M M' : Mp} {q : SW → Mp → Prop} {Q : St → Hp → Prop} {D' : WEnds} {D : Ends}
theorem LV.go (l : LV B H M q Q) (f : Fr2 H M H' M') : LV B H' M' q Q := fun τ M2 σ H2 n g r h => l τ M2 σ H2 n (f.trans g) r h
theorem LD.go (l : LD B H M D' D) (f : Fr2 H M H' M') : LD B H' M' D' D := ⟨l.nx.go f, l.bk.go f, l.ct.go f, fun w M2 v H2 n g r h => l.rt w M2 v H2 n (f.trans g) r h⟩
end
theorem PE.imp {X : Cx} {e : Expr} {t u : TE} (h : PE X e t) (i : ∀ σ H Q, u σ H Q → t σ H Q) : PE X e u := ⟨fun pins s σ H Q I q => h.run pins s σ H Q I (i σ H Q q)⟩
theorem PT.imp {X : Cx} {e : Expr} {t u : TT} (h : PT X e t) (i : ∀ σ H Q, u σ H Q → t σ H Q) : PT X e u := ⟨fun pins s σ H Q I q => h.run pins s σ H Q I (i σ H Q q)⟩
theorem PW.imp {X : Cx} {e : Expr} {t u : TT} (h : PW X e t) (i : ∀ σ H Q, u σ H Q → t σ H Q) : PW X e u := ⟨fun w pins s σ H Q I q => h.run w pins s σ H Q I (i σ H Q q)⟩
theorem PA.imp {X : Cx} {e : List Expr} {t u : TA} (h : PA X e t) (i : ∀ σ H Q, u σ H Q → t σ H Q) : PA X e u := ⟨fun pos pins s σ H Q I q => h.run pos pins s σ H Q I (i σ H Q q)⟩
theorem PS.imp {X : Cx} {e : Stmt} {t u : TS} (h : PS X e t) (i : ∀ D σ H, u D σ H → t D σ H) : PS X e u := ⟨fun pins s σ H D I q => h.run pins s σ H D I (i D σ H q)⟩
theorem PSs.imp {X : Cx} {e : List Stmt} {t u : TS} (h : PSs X e t) (i : ∀ D σ H, u D σ H → t D σ H) : PSs X e u := ⟨fun pins s σ H D I q => h.run pins s σ H D I (i D σ H q)⟩

/-- the judgements -/
abbrev EE (X : Cx) (B : BB) (e : Expr) (t : WE) : Prop := PE X e (LE B t)
abbrev ET (X : Cx) (B : BB) (e : Expr) (t : WT) : Prop := PT X e (LT B t)
abbrev EW (X : Cx) (B : BB) (e : Expr) (t : WT) : Prop := PW X e (LT B t)
abbrev EA (X : Cx) (B : BB) (es : List Expr) (t : WA) : Prop := PA X es (LA B t)
abbrev ES (X : Cx) (B : BB) (st : Stmt) (t : WS) : Prop := PS X st (LS B t)
abbrev ESs (X : Cx) (B : BB) (st : List Stmt) (t : WS) : Prop := PSs X st (LS B t)

/-! ### expressions: names, constants -/
section
variable {X : Cx} {B : BB}
def wVar (i : Nat) : WE := fun τ M Q => match τ[i]? with | some (some w) => Q w M | _ => False
def wC (w : W) : WE := fun _ M Q => Q w M
theorem wVar_some {i : Nat} {τ : SW} {M : Mp} {Q : WK} (h : wVar i τ M Q) : ∃ w, τ[i]? = some (some w) ∧ Q w M := by
  unfold wVar at h
  split at h
  · rename_i w e; exact ⟨w, e, h⟩
  · exact h.elim
theorem ew_var {i : Nat} {e : Expr} (h : PE X e (tVar i)) : EE X B e (wVar i) := PE.imp h fun σ H Q ⟨τ, M, Q', n, r, h, c⟩ => by
  obtain ⟨w, e, q⟩ := wVar_some h
  obtain ⟨v, g1, g2⟩ := r.2 i w e
  exact ⟨v, g1, c w M v H n Fr2.refl g2 q⟩
theorem ev (i : Nat) {x : Str} {pos : Pos} (hN : X.N[i]? = some x := by rfl) (hv : Vis X.env.scope x := by first | exact Or.inl rfl | exact Or.inr (Or.inl rfl) | exact Or.inr (Or.inr rfl)) (hd : (x == ("__debug__" : Str)) = false := by decide)
    (hcd : (x == ("__classdict__" : Str)) = false := by decide) : EE X B (.Name x pos) (wVar i) := ew_var (pe_var hN hv hd hcd)
theorem ew_c {w : W} {v : V} {e : Expr} (h : PE X e (tC v)) (r : ∀ H M, RW B.K H M w v) : EE X B e (wC w) := PE.imp h fun σ H Q ⟨τ, M, Q', n, _, h, c⟩ => c w M v H n Fr2.refl (r H M) h
theorem e_int {i j pos} : EE X B (.Constant (.int i) j pos) (wC (.int i)) := ew_c pe_int fun _ _ => by unfold RW; rfl
theorem e_bl {b j pos} : EE X B (.Constant (.bool b) j pos) (wC (.bl b)) := ew_c pe_bl fun _ _ => by unfold RW; rfl
theorem e_non {j pos} : EE X B (.Constant .none j pos) (wC .non) := ew_c pe_non fun _ _ => by unfold RW; rfl
theorem e_str {x j pos} : EE X B (.Constant (.str x) j pos) (wC (.str x)) := ew_c pe_str fun _ _ => by unfold RW; rfl
/-- a module's def, class as a value -/
theorem e_glob {x : Str} {a : Addr} {pos : Pos} (hg : Gl X x) (hm : X.mg x = some (.ref a)) (hd : (x == ("__debug__" : Str)) = false := by decide) : EE X B (.Name x pos) (wC (.ref a)) :=
  ew_c (pe_glob (v := .ref a) hg hm rfl hd) fun _ _ => by unfold RW; rfl
theorem e_globi {x : Str} {i : Int} {t : Tok} {pos : Pos} (hg : Gl X x) (hm : X.mg x = some (.int i t)) (hd : (x == ("__debug__" : Str)) = false := by decide) : EE X B (.Name x pos) (wC (.int i)) :=
  ew_c (pe_glob (v := .int i) hg hm ⟨t, rfl⟩ hd) fun _ _ => by unfold RW; rfl
theorem e_globs {x : Str} {i : Str} {t : Tok} {pos : Pos} (hg : Gl X x) (hm : X.mg x = some (.str i t)) (hd : (x == ("__debug__" : Str)) = false := by decide) : EE X B (.Name x pos) (wC (.str i)) :=
  ew_c (pe_glob (v := .str i) hg hm ⟨t, rfl⟩ hd) fun _ _ => by unfold RW; rfl

/-! ### two expressions in a row -/
abbrev W2 := W → W → Mp → WK → Prop
def wOp (r : W2) (ta tb : WE) : WE := fun τ M Q => ta τ M fun x M1 => tb τ M1 fun y M2 => r x y M2 Q
/-- a rule by values, over trees -/
def Fits2 (B : BB) (r : W2) (r0 : R2) : Prop := ∀ (x y : W) (v u : V) (H : Hp) (M : Mp) (Q' : WK) (Q : VK), Now B H M → RW B.K H M x v → RW B.K H M y u → r x y M Q' →
  (∀ w M' v' H', Now B H' M' → Fr2 H M H' M' → RW B.K H' M' w v' → Q' w M' → Q v' H') → r0 v u H Q
theorem le_op {r : W2} {r0 : R2} (f : Fits2 B r r0) {ta tb : WE} (σ : St) (H : Hp) (Q : VK) (h : LE B (wOp r ta tb) σ H Q) : tOp r0 (LE B ta) (LE B tb) σ H Q := by
  obtain ⟨τ, M, Q', n, rs, h, c⟩ := h
  refine ⟨τ, M, _, n, rs, h, fun x M1 v H1 n1 f1 r1 h1 => ?_⟩
  refine ⟨τ, M1, _, n1, rs.mono f1, h1, fun y M2 u H2 n2 f2 r2 h2 => ?_⟩
  exact f x y v u H2 M2 Q' Q n2 (r1.mono f2) r2 h2 fun w M' v' H' n' f' r' q => c w M' v' H' n' ((f1.trans f2).trans f') r' q
variable {a b : Expr} {ta tb : WE} {pos : Pos}
theorem e_op {op : Operator} {r : W2} {r0 : R2} (ho : OpR X (binaryOp op) r0) (f : Fits2 B r r0) (ha : EE X B a ta) (hb : EE X B b tb) : EE X B (.BinOp a op b pos) (wOp r ta tb) := PE.imp (pe_op ho ha hb) (le_op f)
theorem e_cmp {op : CmpOp} {r : W2} {r0 : R2} (ho : OpR X (compareOp op) r0) (f : Fits2 B r r0) (ha : EE X B a ta) (hb : EE X B b tb) (hm : behindInMarks op b = false) : EE X B (.Compare a [op] [b] pos) (wOp r ta tb) := PE.imp (pe_cmpR ho ha hb hm) (le_op f)
/-- an expression whose value is a bool, as a test -/
def wB (t : WE) : WT := fun τ M Q => t τ M fun x M1 => match x with | .bl c => Q c M1 | _ => False
theorem lt_tB {t : WE} (σ : St) (H : Hp) (Q : Bool → Hp → Prop) (h : LT B (wB t) σ H Q) : (LE B t) σ H fun x H' => ∃ k, x = .bl k ∧ Q k H' := by
  obtain ⟨τ, M, Q', n, rs, h, c⟩ := h
  refine ⟨τ, M, _, n, rs, h, fun x M1 v H1 n1 f1 r1 h1 => ?_⟩
  cases x with
  | bl k =>
    unfold RW at r1
    exact ⟨k, r1, c k M1 H1 n1 f1 h1⟩
  | _ => exact h1.elim
theorem t_cmp {op : CmpOp} {r : W2} {r0 : R2} (ho : OpR X (compareOp op) r0) (f : Fits2 B r r0) (ha : EE X B a ta) (hb : EE X B b tb) (hm : behindInMarks op b = false) : ET X B (.Compare a [op] [b] pos) (wB (wOp r ta tb)) :=
  PT.imp (pt_cmpR ho ha hb hm) fun σ H Q h => by
    obtain ⟨τ, M, Q', n, rs, h, c⟩ := h
    refine ⟨τ, M, _, n, rs, h, fun x M1 v H1 n1 f1 r1 h1 => ?_⟩
    refine ⟨τ, M1, _, n1, rs.mono f1, h1, fun y M2 u H2 n2 f2 r2 h2 => ?_⟩
    refine f x y v u H2 M2 _ _ n2 (r1.mono f2) r2 h2 fun w M' v' H' n' f' r' q => ?_
    cases w with
    | bl k =>
      unfold RW at r'
      exact ⟨k, r', c k M' H' n' ((f1.trans f2).trans f') q⟩
    | _ => exact q.elim
theorem t_val {e : Expr} {t : WE} (h : EE X B e t) (he : ∀ whole, isTrue e X.env whole = (do let v ← whole; standAt e.pos; holding [v] (truthy v)) := by intro _; rfl) : ET X B e (wB t) := PT.imp (pt_val h he) lt_tB
/-! ### and, or, not -/
variable {tA tB : WT} {rest : List Expr}
def wAnd (t u : WT) : WT := fun τ M Q => t τ M fun c M1 => match c with | true => u τ M1 Q | false => Q false M1
def wOr (t u : WT) : WT := fun τ M Q => t τ M fun c M1 => match c with | true => Q true M1 | false => u τ M1 Q
def wNot (t : WT) : WT := fun τ M Q => t τ M fun c M1 => Q (!c) M1
theorem w_and1 (ha : ET X B a tA) : EW X B (.BoolOp .And [a] pos) tA := pw_and1 ha
theorem w_or1 (ha : ET X B a tA) : EW X B (.BoolOp .Or [a] pos) tA := pw_or1 ha
theorem w_and (ha : ET X B a tA) (hb : EW X B (.BoolOp .And (b :: rest) pos) tB) : EW X B (.BoolOp .And (a :: b :: rest) pos) (wAnd tA tB) := PW.imp (pw_and ha hb) fun σ H Q h => by
  obtain ⟨τ, M, Q', n, rs, h, c⟩ := h
  refine ⟨τ, M, _, n, rs, h, fun k M1 H1 n1 f1 h1 => ?_⟩
  cases k with
  | true => exact iteT ⟨τ, M1, Q', n1, rs.mono f1, h1, fun k' M' H' n' f' q => c k' M' H' n' (f1.trans f') q⟩
  | false => exact iteF (c false M1 H1 n1 f1 h1)
theorem w_or (ha : ET X B a tA) (hb : EW X B (.BoolOp .Or (b :: rest) pos) tB) : EW X B (.BoolOp .Or (a :: b :: rest) pos) (wOr tA tB) := PW.imp (pw_or ha hb) fun σ H Q h => by
  obtain ⟨τ, M, Q', n, rs, h, c⟩ := h
  refine ⟨τ, M, _, n, rs, h, fun k M1 H1 n1 f1 h1 => ?_⟩
  cases k with
  | true => exact iteT (c true M1 H1 n1 f1 h1)
  | false => exact iteF ⟨τ, M1, Q', n1, rs.mono f1, h1, fun k' M' H' n' f' q => c k' M' H' n' (f1.trans f') q⟩
theorem t_not (ha : ET X B a tA) : ET X B (.UnaryOp .Not a pos) (wNot tA) := PT.imp (pt_not ha) fun σ H Q h => by
  obtain ⟨τ, M, Q', n, rs, h, c⟩ := h
  exact ⟨τ, M, _, n, rs, h, fun k M1 H1 n1 f1 h1 => c (!k) M1 H1 n1 f1 h1⟩
/-- as values, all but the last bools -/
def wAndV (ta tb : WE) : WE := fun τ M Q => ta τ M fun x M1 => match x with | .bl true => tb τ M1 Q | .bl false => Q (.bl false) M1 | _ => False
def wOrV (ta tb : WE) : WE := fun τ M Q => ta τ M fun x M1 => match x with | .bl false => tb τ M1 Q | .bl true => Q (.bl true) M1 | _ => False
def wNotV (ta : WE) : WE := fun τ M Q => ta τ M fun x M1 => match x with | .bl c => Q (.bl (!c)) M1 | _ => False
theorem e_one {op} {t : WE} (h : EE X B a t) : EE X B (.BoolOp op [a] pos) t := pe_one h
theorem rw_bl {K : PySem.W.Frag} {H : Hp} {M : Mp} {b : Bool} : RW K H M (.bl b) (.bl b) := by unfold RW; rfl
theorem rw_int {K : PySem.W.Frag} {H : Hp} {M : Mp} {b : Int} : RW K H M (.int b) (.int b) := by unfold RW; rfl
theorem rw_str {K : PySem.W.Frag} {H : Hp} {M : Mp} {b : Str} : RW K H M (.str b) (.str b) := by unfold RW; rfl
theorem rw_non {K : PySem.W.Frag} {H : Hp} {M : Mp} : RW K H M .non .non := by unfold RW; rfl
theorem rw_ref {K : PySem.W.Frag} {H : Hp} {M : Mp} {b : Addr} : RW K H M (.ref b) (.ref b) := by unfold RW; rfl
theorem e_and (ha : EE X B a ta) (hb : EE X B (.BoolOp .And (b :: rest) pos) tb) : EE X B (.BoolOp .And (a :: b :: rest) pos) (wAndV ta tb) := PE.imp (pe_and ha hb) fun σ H Q h => by
  obtain ⟨τ, M, Q', n, rs, h, c⟩ := h
  refine ⟨τ, M, _, n, rs, h, fun k M1 v H1 n1 f1 r1 h1 => ?_⟩
  cases k with
  | bl k =>
    unfold RW at r1
    refine ⟨k, r1, ?_⟩
    cases k with
    | true => exact iteT ⟨τ, M1, Q', n1, rs.mono f1, h1, fun k' M' v' H' n' f' r' q => c k' M' v' H' n' (f1.trans f') r' q⟩
    | false => exact iteF (c _ M1 _ H1 n1 f1 rw_bl h1)
  | _ => exact h1.elim
theorem e_or (ha : EE X B a ta) (hb : EE X B (.BoolOp .Or (b :: rest) pos) tb) : EE X B (.BoolOp .Or (a :: b :: rest) pos) (wOrV ta tb) := PE.imp (pe_or ha hb) fun σ H Q h => by
  obtain ⟨τ, M, Q', n, rs, h, c⟩ := h
  refine ⟨τ, M, _, n, rs, h, fun k M1 v H1 n1 f1 r1 h1 => ?_⟩
  cases k with
  | bl k =>
    unfold RW at r1
    refine ⟨k, r1, ?_⟩
    cases k with
    | true => exact iteT (c _ M1 _ H1 n1 f1 rw_bl h1)
    | false => exact iteF ⟨τ, M1, Q', n1, rs.mono f1, h1, fun k' M' v' H' n' f' r' q => c k' M' v' H' n' (f1.trans f') r' q⟩
  | _ => exact h1.elim
theorem e_not (ha : EE X B a ta) : EE X B (.UnaryOp .Not a pos) (wNotV ta) := PE.imp (pe_not ha) fun σ H Q h => by
  obtain ⟨τ, M, Q', n, rs, h, c⟩ := h
  refine ⟨τ, M, _, n, rs, h, fun k M1 v H1 n1 f1 r1 h1 => ?_⟩
  cases k with
  | bl k =>
    unfold RW at r1
    exact ⟨k, r1, c _ M1 _ H1 n1 f1 rw_bl h1⟩
  | _ => exact h1.elim
def wIf (t : WT) (ta tb : WE) : WE := fun τ M Q => t τ M fun c M1 => match c with | true => ta τ M1 Q | false => tb τ M1 Q
theorem e_ifExp {c : Expr} (hc : ET X B c tA) (ha : EE X B a ta) (hb : EE X B b tb) : EE X B (.IfExp c a b pos) (wIf tA ta tb) := PE.imp (pe_ifExp hc ha hb) fun σ H Q h => by
  obtain ⟨τ, M, Q', n, rs, h, c⟩ := h
  refine ⟨τ, M, _, n, rs, h, fun k M1 H1 n1 f1 h1 => ?_⟩
  cases k with
  | true => exact iteT ⟨τ, M1, Q', n1, rs.mono f1, h1, fun k' M' v' H' n' f' r' q => c k' M' v' H' n' (f1.trans f') r' q⟩
  | false => exact iteF ⟨τ, M1, Q', n1, rs.mono f1, h1, fun k' M' v' H' n' f' r' q => c k' M' v' H' n' (f1.trans f') r' q⟩
/-! ### arguments, displays -/
def wNil : WA := fun _ M Q => Q [] M
def wCons (ta : WE) (tr : WA) : WA := fun τ M Q => ta τ M fun x M1 => tr τ M1 fun xs M2 => Q (x :: xs) M2
variable {e : Expr} {es : List Expr} {te : WE} {t : WA}
theorem a_nil : EA X B [] wNil := PA.imp pa_nil fun σ H Q h => by
  obtain ⟨τ, M, Q', n, rs, h, c⟩ := h
  exact c [] M [] H n Fr2.refl RWs.nil h
theorem a_cons (ha : EE X B e te) (hr : EA X B es t) (hs : starEach (e :: es) X.env = (false, eval e X.env) :: starEach es X.env := by rfl) : EA X B (e :: es) (wCons te t) := PA.imp (pa_cons ha hr hs) fun σ H Q h => by
  obtain ⟨τ, M, Q', n, rs, h, c⟩ := h
  refine ⟨τ, M, _, n, rs, h, fun x M1 v H1 n1 f1 r1 h1 => ?_⟩
  refine ⟨τ, M1, _, n1, rs.mono f1, h1, fun xs M2 vs H2 n2 f2 r2 h2 => ?_⟩
  exact c _ M2 _ H2 n2 (f1.trans f2) (RWs.cons (r1.mono f2) r2) h2
/-- a tuple -/
def wTup (t : WA) : WE := fun τ M Q => t τ M fun xs M1 => xs.length ≤ sizeLine ∧ Q (.tup xs) M1
theorem rw_tup {K : PySem.W.Frag} {H : Hp} {M : Mp} {ws : List W} {vs : List V} {p : Addr} (S : Sim K H M) (h : H p = none) (r : RWs K H M ws vs) : RW K (upd H p (.tup vs)) M (.tup ws) (.ref p) := by
  unfold RW
  exact ⟨p, vs, rfl, .inl ⟨.inl upd_same, S.no h⟩, r.mono (Fr2.fresh h)⟩
theorem rw_lst {K : PySem.W.Frag} {H : Hp} {M : Mp} {ws : List W} {vs : List V} {p : Addr} (S : Sim K H M) (h : H p = none) (r : RWs K H M ws vs) : RW K (upd H p (.lst vs)) M (.lst ws) (.ref p) := by
  unfold RW
  exact ⟨p, vs, rfl, ⟨upd_same, S.no h⟩, r.mono (Fr2.fresh h)⟩
theorem e_tup {x1} (h : EA X B es t) : EE X B (.Tuple es x1 pos) (wTup t) := PE.imp (pe_tup h) fun σ H Q h => by
  obtain ⟨τ, M, Q', n, rs, h, c⟩ := h
  refine ⟨τ, M, _, n, rs, h, fun xs M1 vs H1 n1 f1 r1 ⟨hz, h1⟩ => ⟨by rw [← r1.length]; exact hz, fun p hp => ?_⟩⟩
  exact c _ M1 _ _ (n1.fresh hp) (f1.trans (Fr2.fresh hp)) (rw_tup n1.sim hp r1) h1
/-- a list that will not change -/
def wLst (t : WA) : WE := fun τ M Q => t τ M fun xs M1 => xs.length ≤ sizeLine ∧ Q (.lst xs) M1
theorem e_lst (h : EA X B es t) : EE X B (.List es pos) (wLst t) := PE.imp (pe_lst h) fun σ H Q h => by
  obtain ⟨τ, M, Q', n, rs, h, c⟩ := h
  refine ⟨τ, M, _, n, rs, h, fun xs M1 vs H1 n1 f1 r1 ⟨hz, h1⟩ => ⟨by rw [← r1.length]; exact hz, fun p hp => ?_⟩⟩
  exact c _ M1 _ _ (n1.fresh hp) (f1.trans (Fr2.fresh hp)) (rw_lst n1.sim hp r1) h1
/-- a list that may change -/
def wLstM (t : WA) : WE := fun τ M Q => t τ M fun xs M1 => xs.length ≤ sizeLine ∧ ∀ p, M1 p = none → Q (.ref p) (M1.upd p (.lst xs))
theorem Now.allocL {H : Hp} {M : Mp} {p : Addr} {ws : List W} {vs : List V} (n : Now B H M) (h : H p = none) (r : RWs B.K H M ws vs) : Now B (upd H p (.lst vs)) (M.upd p (.lst ws)) :=
  n.to (n.sim.alloc h ⟨vs, upd_same, r.mono (Fr2.alloc h)⟩) (Fr2.alloc h)
theorem e_lstM (h : EA X B es t) : EE X B (.List es pos) (wLstM t) := PE.imp (pe_lst h) fun σ H Q h => by
  obtain ⟨τ, M, Q', n, rs, h, c⟩ := h
  refine ⟨τ, M, _, n, rs, h, fun xs M1 vs H1 n1 f1 r1 ⟨hz, h1⟩ => ⟨by rw [← r1.length]; exact hz, fun p hp => ?_⟩⟩
  exact c _ _ _ _ (n1.allocL hp r1) (f1.trans (Fr2.alloc hp)) rw_ref (h1 p (n1.sim.no hp))
/-- what is made is kept as it is from now on -/
def wFz (t : WE) : WE := fun τ M Q => t τ M fun w M' => ∃ p m, w = .ref p ∧ M' p = some m ∧ Q m.fz (M'.del p)
theorem e_fz {t : WE} (h : EE X B e t) : EE X B e (wFz t) := PE.imp h fun σ H Q h => by
  obtain ⟨τ, M, Q', n, rs, h, c⟩ := h
  refine ⟨τ, M, _, n, rs, h, fun w M' v H' n' f' r' q => ?_⟩
  obtain ⟨p, m, rfl, hp, q⟩ := q
  unfold RW at r'
  subst r'
  exact c _ (M'.del p) _ H' (n'.to n'.sim.del Fr2.del) (f'.trans Fr2.del) (RO.fz n'.sim hp) q
/-- a call of a built-in by its name -/
abbrev WCall := List W → Mp → WK → Prop
def wCB (r : WCall) (t : WA) : WE := fun τ M Q => t τ M fun ws M1 => r ws M1 Q
def FitsC (B : BB) (r : WCall) (r0 : List V → Hp → VK → Prop) : Prop := ∀ (ws : List W) (vs : List V) (H : Hp) (M : Mp) (Q' : WK) (Q : VK), Now B H M → RWs B.K H M ws vs → r ws M Q' →
  (∀ w M' v' H', Now B H' M' → Fr2 H M H' M' → RW B.K H' M' w v' → Q' w M' → Q v' H') → r0 vs H Q
theorem le_cb {r : WCall} {r0 : List V → Hp → VK → Prop} (f : FitsC B r r0) {t : WA} (σ : St) (H : Hp) (Q : VK) (h : LE B (wCB r t) σ H Q) : tCB r0 (LA B t) σ H Q := by
  obtain ⟨τ, M, Q', n, rs, h, c⟩ := h
  refine ⟨τ, M, _, n, rs, h, fun ws M1 vs H1 n1 f1 r1 h1 => ?_⟩
  exact f ws vs H1 M1 Q' Q n1 r1 h1 fun w M' v' H' n' f' r' q => c w M' v' H' n' (f1.trans f') r' q
end

/-! ### blocks and statements -/
section
variable {X : Cx} {B : BB} {st : Stmt} {rest : List Stmt} {t u : WS} {e : Expr} {te : WE} {pos : Pos}
def wNext : WS := fun D τ M => D.nx τ M
def wSeq (t u : WS) : WS := fun D τ M => t { D with nx := u D } τ M
theorem ss_nil : ESs X B [] wNext := PSs.imp pss_nil fun D σ H h => by
  obtain ⟨τ, M, D', n, rs, h, c⟩ := h
  exact c.nx τ M σ H n Fr2.refl rs h
theorem ss_cons (h1 : ES X B st t) (h2 : ESs X B rest u) : ESs X B (st :: rest) (wSeq t u) := PSs.imp (pss_cons h1 h2) fun D σ H h => by
  obtain ⟨τ, M, D', n, rs, h, c⟩ := h
  exact ⟨τ, M, _, n, rs, h, ⟨fun τ' M' σ' H' n' f' r' q => ⟨τ', M', D', n', r', q, c.go f'⟩, c.bk, c.ct, c.rt⟩⟩
theorem ss_one (h1 : ES X B st t) : ESs X B [st] t := pss_one h1
def wBreak : WS := fun D τ M => D.bk τ M
def wCont : WS := fun D τ M => D.ct τ M
theorem s_pass : ES X B (.Pass pos) wNext := PS.imp ps_pass fun D σ H h => by
  obtain ⟨τ, M, D', n, rs, h, c⟩ := h
  exact c.nx τ M σ H n Fr2.refl rs h
theorem s_break : ES X B (.Break pos) wBreak := PS.imp ps_break fun D σ H h => by
  obtain ⟨τ, M, D', n, rs, h, c⟩ := h
  exact c.bk τ M σ H n Fr2.refl rs h
theorem s_cont : ES X B (.Continue pos) wCont := PS.imp ps_continue fun D σ H h => by
  obtain ⟨τ, M, D', n, rs, h, c⟩ := h
  exact c.ct τ M σ H n Fr2.refl rs h
theorem s_doc {x j pos pos'} : ES X B (.Expr (.Constant (.str x) j pos) pos') wNext := PS.imp ps_doc fun D σ H h => by
  obtain ⟨τ, M, D', n, rs, h, c⟩ := h
  exact c.nx τ M σ H n Fr2.refl rs h
def wDrop (te : WE) : WS := fun D τ M => te τ M fun _ M1 => D.nx τ M1
theorem s_expr (he : EE X B e te) (hs : swapsWith e none pos.line X.env = pure false := by rfl) : ES X B (.Expr e pos) (wDrop te) := PS.imp (ps_expr he hs) fun D σ H h => by
  obtain ⟨τ, M, D', n, rs, h, c⟩ := h
  exact ⟨τ, M, _, n, rs, h, fun w M' v H' n' f' r' q => c.nx τ M' σ H' n' f' (rs.mono f') q⟩
def wRet (te : WE) : WS := fun D τ M => te τ M D.rt
theorem s_ret (he : EE X B e te) : ES X B (.Return (some e) pos) (wRet te) := PS.imp (ps_ret he) fun D σ H h => by
  obtain ⟨τ, M, D', n, rs, h, c⟩ := h
  exact ⟨τ, M, _, n, rs, h, fun w M' v H' n' f' r' q => c.rt w M' v H' n' f' r' q⟩
def wRetN : WS := fun D _ M => D.rt .non M
theorem s_retN : ES X B (.Return none pos) wRetN := PS.imp ps_retN fun D σ H h => by
  obtain ⟨τ, M, D', n, rs, h, c⟩ := h
  exact c.rt .non M .non H n Fr2.refl rw_non h
def wIfS (c : WT) (t u : WS) : WS := fun D τ M => c τ M fun b M1 => match b with | true => t D τ M1 | false => u D τ M1
theorem s_if {c : Expr} {a b : List Stmt} {tc : WT} (hc : ET X B c tc) (ha : ESs X B a t) (hb : ESs X B b u) : ES X B (.If c a b pos) (wIfS tc t u) := PS.imp (ps_if hc ha hb) fun D σ H h => by
  obtain ⟨τ, M, D', n, rs, h, c⟩ := h
  refine ⟨τ, M, _, n, rs, h, fun k M1 H1 n1 f1 h1 => ?_⟩
  cases k with
  | true => exact iteT ⟨τ, M1, D', n1, rs.mono f1, h1, c.go f1⟩
  | false => exact iteF ⟨τ, M1, D', n1, rs.mono f1, h1, c.go f1⟩
def wNever : WS := fun _ _ _ => False
theorem s_never : ES X B st wNever := PS.imp ps_never fun D σ H h => by
  obtain ⟨τ, M, D', n, rs, h, c⟩ := h
  exact h
/-! ### targets -/
abbrev WG := W → SW → Mp → (SW → Mp → Prop) → Prop
abbrev WGs := List W → SW → Mp → (SW → Mp → Prop) → Prop
def LG (B : BB) (t : WG) : TG := fun v σ H Q => ∃ w τ M q, Now B H M ∧ RSt B.K H M τ σ ∧ RW B.K H M w v ∧ t w τ M q ∧ LV B H M q Q
def LGs (B : BB) (t : WGs) : TGs := fun vs σ H Q => ∃ ws τ M q, Now B H M ∧ RSt B.K H M τ σ ∧ RWs B.K H M ws vs ∧ t ws τ M q ∧ LV B H M q Q
theorem PG.imp {X : Cx} {e : Expr} {t u : TG} (h : PG X e t) (i : ∀ v σ H Q, u v σ H Q → t v σ H Q) : PG X e u := ⟨fun pins s σ H v uu Q I r q => h.run pins s σ H v uu Q I r (i v σ H Q q)⟩
theorem PGs.imp {X : Cx} {e : List Expr} {t u : TGs} (h : PGs X e t) (i : ∀ v σ H Q, u v σ H Q → t v σ H Q) : PGs X e u := ⟨fun pins s σ H v uu Q I r q => h.run pins s σ H v uu Q I r (i v σ H Q q)⟩
abbrev EG (X : Cx) (B : BB) (tg : Expr) (t : WG) : Prop := PG X tg (LG B t)
abbrev EGs (X : Cx) (B : BB) (tg : List Expr) (t : WGs) : Prop := PGs X tg (LGs B t)
def gN (i : Nat) : WG := fun w τ M Q => Q (τ.set i (some w)) M
theorem g_name {i : Nat} {x : Str} (hN : X.N.Nodup) (hi : X.N[i]? = some x) (hx : Loc X.env.scope x) (hf : X.fn x = true ∨ X.env.scope.names.lookup x = some .local := by first | exact .inl rfl | exact .inr rfl | assumption) : EG X B (.Name x pos) (gN i) :=
  PG.imp (pg_name hN hi hx hf) fun v σ H Q h => by
    obtain ⟨w, τ, M, q, n, rs, r, h, c⟩ := h
    exact c _ M _ H n Fr2.refl (rs.set i r) h
def gsNil : WGs := fun ws τ M Q => ws = [] ∧ Q τ M
def gsCons (t : WG) (u : WGs) : WGs := fun ws τ M Q => match ws with | w :: r => t w τ M fun τ' M' => u r τ' M' Q | [] => False
theorem gs_nil : EGs X B [] gsNil := PGs.imp pgs_nil fun v σ H Q h => by
  obtain ⟨ws, τ, M, q, n, rs, r, ⟨e, h⟩, c⟩ := h
  subst e
  unfold RWs at r
  exact ⟨r, c τ M σ H n Fr2.refl rs h⟩
theorem gs_cons {e : Expr} {es : List Expr} {t : WG} {u : WGs} (h1 : EG X B e t) (h2 : EGs X B es u)
    (hs : (assignEach (e :: es) X.env).map (·.2) = assign e X.env :: (assignEach es X.env).map (·.2) := by rfl) : EGs X B (e :: es) (gsCons t u) := PGs.imp (pgs_cons h1 h2 hs) fun v σ H Q h => by
  obtain ⟨ws, τ, M, q, n, rs, r, h, c⟩ := h
  cases ws with
  | nil => exact h.elim
  | cons w ws =>
    unfold RWs at r
    obtain ⟨v1, vr, e, r1, r2⟩ := r
    refine ⟨v1, vr, e, w, τ, M, _, n, rs, r1, h, fun τ' M' σ' H' n' f' rs' h' => ?_⟩
    exact ⟨ws, τ', M', q, n', rs', r2.mono f', h', c.go f'⟩
/-- (a, b, ..) = a tuple -/
def gT (n : Nat) (t : WGs) : WG := fun w τ M Q => match w with | .tup ws => ws.length = n ∧ t ws τ M Q | _ => False
theorem g_tup {es : List Expr} {k : Nat} {t : WGs} {n : Nat} (hc : X.calm = true) (hK : X.K = B.K) (h : EGs X B es t)
    (hn : (assignEach es X.env).length = n := by rfl) (hst : (assignEach es X.env).findIdx? (·.1) = none := by rfl) : EG X B (.Tuple es k pos) (gT n t) := PG.imp (pg_tup hc h hn hst) fun v σ H Q h => by
  obtain ⟨w, τ, M, q, nw, rs, r, h, c⟩ := h
  cases w with
  | tup ws =>
    unfold RW at r
    obtain ⟨a, vs, e, ht, r⟩ := r
    refine ⟨a, vs, e, ?_, by rw [← r.length]; exact h.1, ws, τ, M, q, nw, rs, r, h.2, c⟩
    rw [hK]
    rcases ht with ⟨ht, _⟩ | ht
    · exact .inl ht
    · exact .inr ht
  | _ => exact h.elim
def wAsg (te : WE) (g : WG) : WS := fun D τ M => te τ M fun x M1 => g x τ M1 D.nx
theorem le_asg {te : WE} {g : WG} (D : Ends) (σ : St) (H : Hp) (h : LS B (wAsg te g) D σ H) : tAsg (LE B te) (LG B g) D σ H := by
  obtain ⟨τ, M, D', n, rs, h, c⟩ := h
  exact ⟨τ, M, _, n, rs, h, fun w M' v H' n' f' r' q => ⟨w, τ, M', _, n', rs.mono f', r', q, c.nx.go f'⟩⟩
theorem s_asg {tg e : Expr} {te : WE} {g : WG} (he : EE X B e te) (hg : EG X B tg g) (hs : swapsWithSole [tg] e pos.line X.env = pure false := by rfl) (hw : swappedStores [tg] e X.env = pure none := by rfl)
    (h1 : (assignEach [tg] X.env).map (·.2) = [assign tg X.env] := by rfl) : ES X B (.Assign [tg] e pos) (wAsg te g) := PS.imp (ps_asg he hg hs hw h1) le_asg
theorem s_set {i : Nat} {x : Str} {e : Expr} {te : WE} {pos' : Pos} (hN : X.N.Nodup) (hi : X.N[i]? = some x) (hx : Loc X.env.scope x) (he : EE X B e te) (hs : swapsWith e (some (.Name x pos')) pos.line X.env = pure false := by rfl)
    (hf : X.fn x = true ∨ X.env.scope.names.lookup x = some .local := by first | exact .inl rfl | exact .inr rfl | assumption) : ES X B (.Assign [.Name x pos'] e pos) (wAsg te (gN i)) :=
  PS.imp (ps_set hN hi hx he hs hf) fun D σ H h => by
    obtain ⟨τ, M, D', n, rs, h, c⟩ := h
    exact ⟨τ, M, _, n, rs, h, fun w M' v H' n' f' r' q => c.nx _ M' _ H' n' f' ((rs.mono f').set i r') q⟩
/-- a slot's object is kept as it is from now on -/
def wFzS (i : Nat) (t : WS) : WS := fun D τ M => ∃ p m, τ[i]? = some (some (.ref p)) ∧ M p = some m ∧ t D (τ.set i (some m.fz)) (M.del p)
theorem s_fz (i : Nat) (h : ES X B st t) : ES X B st (wFzS i t) := PS.imp h fun D σ H h => by
  obtain ⟨τ, M, D', n, rs, ⟨p, m, e, hp, h⟩, c⟩ := h
  obtain ⟨v, e1, r1⟩ := rs.2 i _ e
  unfold RW at r1
  subst r1
  refine ⟨τ.set i (some m.fz), M.del p, D', n.to n.sim.del Fr2.del, (rs.mono Fr2.del).re i (fun v hv => ?_) ⟨_, e1⟩, h, c.go Fr2.del⟩
  rw [e1] at hv
  cases hv
  exact RO.fz n.sim hp
/-- a, b = x, y (plain locals) -/
def wPar (i j : Nat) (ta : WA) : WS := fun D τ M => ta τ M fun ws M1 => match ws with | [v, w] => D.nx ((τ.set i (some v)).set j (some w)) M1 | _ => False
theorem s_par {i j : Nat} {x y : Str} {a b : Expr} {ta : WA} {px py pt : Pos} {kt k2 pt2} (hc : X.calm = true) (hN : X.N.Nodup) (hi : X.N[i]? = some x) (hj : X.N[j]? = some y) (hij : i ≠ j)
    (hx : X.env.scope.names.lookup x = some .local) (hy : X.env.scope.names.lookup y = some .local) (ha : EA X B [a, b] ta)
    (hw : swappedStores [.Tuple [.Name x px, .Name y py] kt pt] (.Tuple [a, b] k2 pt2) X.env = pure (some [x, y]))
    (hs : swapsWithSole [.Tuple [.Name x px, .Name y py] kt pt] (.Tuple [a, b] k2 pt2) pos.line X.env = pure false := by rfl) :
    ES X B (.Assign [.Tuple [.Name x px, .Name y py] kt pt] (.Tuple [a, b] k2 pt2) pos) (wPar i j ta) := PS.imp (ps_par hc hN hi hj hij hx hy ha hw hs) fun D σ H h => by
  obtain ⟨τ, M, D', n, rs, h, c⟩ := h
  refine ⟨τ, M, _, n, rs, h, fun ws M' vs H' n' f' r' q => ?_⟩
  match ws, q with
  | [v, w], q =>
    unfold RWs at r'
    obtain ⟨v1, r, rfl, g1, g2⟩ := r'
    unfold RWs at g2
    obtain ⟨v2, r, rfl, g2, g3⟩ := g2
    unfold RWs at g3
    subst g3
    exact ⟨v1, v2, rfl, c.nx _ M' _ H' n' f' (((rs.mono f').set i g1).set j g2) q⟩
end
end L3

/-! L3Ops: operators, comparisons, subscripts, slices, calls of built-ins over trees. -/
namespace L3
open PySem PySem.Spec L2

/-! ### data -/
mutual
def W.D : W → PyData
  | .non => .none
  | .bl b => .bool b
  | .int i => .int i
  | .str x => .str x
  | .tup l => .tuple (W.Ds l)
  | .lst l => .list (W.Ds l)
  | .rol l => .list (W.Ds l)
  | .ty _ => .dict []
  | .ref _ => .dict []
  | .dic _ _ => .dict []
  | .ins _ _ _ => .dict []
def W.Ds : List W → List PyData
  | [] => []
  | w :: ws => w.D :: W.Ds ws
end
/-- == of data -/
def weq (x y : W) : Bool := PyData.eqv x.D y.D
def okD (w : W) : Bool := SeqAt.shaped w.D
/-- a list that is read, whether it may change or not -/
def W.asL (M : Mp) : W → Option (List W)
  | .lst l => some l
  | .ref p => match M p with | some (.lst l) => some l | _ => none
  | _ => none
def W.asR (M : Mp) : W → Option (List W)
  | .lst l => some l
  | .rol l => some l
  | .ref p => match M p with | some (.lst l) => some l | _ => none
  | _ => none
def W.asS (M : Mp) : W → Option (List W)
  | .lst l => some l
  | .rol l => some l
  | .tup l => some l
  | .ref p => match M p with | some (.lst l) => some l | _ => none
  | _ => none
def W.dr (M : Mp) : W → W
  | .ref p => match M p with | some (.lst l) => .lst l | _ => .ref p
  | w => w
section
variable {K : PySem.W.Frag} {H : Hp} {M : Mp}
theorem asL_of {w : W} {l : List W} {v : V} (S : Sim K H M) (h : w.asL M = some l) (r : RW K H M w v) : ∃ a vs, v = .ref a ∧ H a = some (.lst vs) ∧ RWs K H M l vs := by
  cases w with
  | lst l' =>
    have e : l' = l := Option.some.inj h
    subst e
    unfold RW at r
    obtain ⟨a, vs, e, ⟨h1, _⟩, h2⟩ := r
    exact ⟨a, vs, e, h1, h2⟩
  | ref p =>
    unfold RW at r
    unfold W.asL at h
    cases e : M p with
    | none => simp only [e] at h; cases h
    | some o =>
      simp only [e] at h
      cases o with
      | lst l' =>
        have e' : l' = l := Option.some.inj h
        subst e'
        obtain ⟨vs, h1, h2⟩ := S p _ e
        exact ⟨p, vs, r, h1, h2⟩
      | _ => cases h
  | _ => cases h
theorem sqL_of {a : Addr} {vs : List V} (h : (Rd H a (.lst vs) ∧ M a = none) ∨ KL K a vs) : SqL K H a vs := by
  rcases h with ⟨h, _⟩ | h
  · exact .inl h
  · exact .inr h
theorem sqT_of {a : Addr} {vs : List V} (h : (Rd H a (.tup vs) ∧ M a = none) ∨ KT K a vs) : SqT K H a vs := by
  rcases h with ⟨h, _⟩ | h
  · exact .inl h
  · exact .inr h
theorem asR_of {w : W} {l : List W} {v : V} (S : Sim K H M) (h : w.asR M = some l) (r : RW K H M w v) : ∃ a vs, v = .ref a ∧ SqL K H a vs ∧ RWs K H M l vs := by
  cases w with
  | rol l' =>
    have e : l' = l := Option.some.inj h
    subst e
    unfold RW at r
    obtain ⟨a, vs, e, h1, h2⟩ := r
    exact ⟨a, vs, e, sqL_of h1, h2⟩
  | lst l' =>
    obtain ⟨a, vs, e, h1, h2⟩ := asL_of S (w := .lst l') h r
    exact ⟨a, vs, e, SqL.of h1, h2⟩
  | ref p =>
    obtain ⟨a, vs, e, h1, h2⟩ := asL_of S (w := .ref p) h r
    exact ⟨a, vs, e, SqL.of h1, h2⟩
  | _ => cases h
theorem tup_of {l : List W} {v : V} (r : RW K H M (.tup l) v) : ∃ a vs, v = .ref a ∧ SqT K H a vs ∧ RWs K H M l vs := by
  unfold RW at r
  obtain ⟨a, vs, e, h1, h2⟩ := r
  exact ⟨a, vs, e, sqT_of h1, h2⟩
theorem asS_of {w : W} {l : List W} {v : V} (S : Sim K H M) (h : w.asS M = some l) (r : RW K H M w v) : ∃ a vs, v = .ref a ∧ (SqL K H a vs ∨ SqT K H a vs) ∧ RWs K H M l vs := by
  cases w with
  | tup l' =>
    have e : l' = l := Option.some.inj h
    subst e
    obtain ⟨a, vs, e, h1, h2⟩ := tup_of r
    exact ⟨a, vs, e, .inr h1, h2⟩
  | rol l' =>
    obtain ⟨a, vs, e, h1, h2⟩ := asR_of S (w := .rol l') h r
    exact ⟨a, vs, e, .inl h1, h2⟩
  | lst l' =>
    obtain ⟨a, vs, e, h1, h2⟩ := asR_of S (w := .lst l') h r
    exact ⟨a, vs, e, .inl h1, h2⟩
  | ref p =>
    obtain ⟨a, vs, e, h1, h2⟩ := asR_of S (w := .ref p) h r
    exact ⟨a, vs, e, .inl h1, h2⟩
  | _ => cases h
theorem shaped_list {l : List PyData} (h : SeqAt.shaped (.list l) = true) : PyData.canLayAll0 l = true := by
  have := SeqAt.canLay_of_shaped h
  simpa only [PyData.canLay0] using this
mutual
theorem RW.dp : ∀ (w : W) {v : V}, PyData.canLay0 w.D = true → RW K H M w v → Dp K H v w.D
  | .non, _, _, r => by unfold RW at r; rw [r]; unfold W.D; exact .non
  | .bl b, _, _, r => by unfold RW at r; rw [r]; unfold W.D; exact .bl b
  | .int b, _, _, r => by unfold RW at r; rw [r]; unfold W.D; exact .int b
  | .str b, _, _, r => by unfold RW at r; rw [r]; unfold W.D; exact .str b
  | .tup l, _, c, r => by
    obtain ⟨a, vs, e, h1, h2⟩ := tup_of r
    unfold W.D at c ⊢
    rw [e]
    exact .tup h1 (RWs.dp l (by simpa only [PyData.canLay0] using c) h2)
  | .lst l, _, c, r => by
    unfold RW at r
    obtain ⟨a, vs, e, ⟨h1, _⟩, h2⟩ := r
    unfold W.D at c ⊢
    rw [e]
    exact .lst (SqL.of h1) (RWs.dp l (by simpa only [PyData.canLay0] using c) h2)
  | .rol l, _, c, r => by
    unfold RW at r
    obtain ⟨a, vs, e, h1, h2⟩ := r
    unfold W.D at c ⊢
    rw [e]
    exact .lst (sqL_of h1) (RWs.dp l (by simpa only [PyData.canLay0] using c) h2)
  | .ty _, _, c, _ => by unfold W.D at c; simp only [PyData.canLay0] at c; cases c
  | .ref _, _, c, _ => by unfold W.D at c; simp only [PyData.canLay0] at c; cases c
  | .dic _ _, _, c, _ => by unfold W.D at c; simp only [PyData.canLay0] at c; cases c
  | .ins _ _ _, _, c, _ => by unfold W.D at c; simp only [PyData.canLay0] at c; cases c
theorem RWs.dp : ∀ (ws : List W) {vs : List V}, PyData.canLayAll0 (W.Ds ws) = true → RWs K H M ws vs → DpAll K H vs (W.Ds ws)
  | [], _, _, r => by unfold RWs at r; rw [r]; unfold W.Ds; exact .nil
  | w :: ws, _, c, r => by
    unfold RWs at r
    obtain ⟨v, u, e, r1, r2⟩ := r
    unfold W.Ds at c ⊢
    rw [e]
    simp only [PyData.canLayAll0, Bool.and_eq_true] at c
    exact .cons (RW.dp w c.1 r1) (RWs.dp ws c.2 r2)
end
theorem dr_dp {w : W} {v : V} (S : Sim K H M) (h : okD (w.dr M) = true) (r : RW K H M w v) : Dp K H v (w.dr M).D := by
  have c := SeqAt.canLay_of_shaped h
  cases w with
  | ref p =>
    unfold W.dr at c ⊢
    unfold RW at r
    cases e : M p with
    | none => simp only [e] at c; simp only [W.D, PyData.canLay0] at c; cases c
    | some o =>
      simp only [e] at c ⊢
      cases o with
      | lst l =>
        obtain ⟨vs, h1, h2⟩ := S p _ e
        simp only [W.D, PyData.canLay0] at c ⊢
        rw [r]
        exact .lst (SqL.of h1) (RWs.dp l c h2)
      | _ => simp only [W.D, PyData.canLay0] at c; cases c
  | _ => exact RW.dp _ c r
end

/-! ### + - * // % ** -/
section
variable {X : Cx} {B : BB}
def rAdd : W2 := fun x y M Q => match x, y with
  | .int i, .int j => Q (.int (i + j)) M
  | .str a, .str b => a.length + b.length ≤ sizeLine ∧ Q (.str (a ++ b)) M
  | .tup a, .tup b => a.length + b.length ≤ sizeLine ∧ Q (.tup (a ++ b)) M
  | x, y => match x.asL M, y.asL M with
    | some a, some b => a.length + b.length ≤ sizeLine ∧ Q (.lst (a ++ b)) M
    | _, _ => False
def r0Add (K : PySem.W.Frag) : R2 := fun x y H Q => (rI0 (fun i j => .int (i + j)) x y H Q ∨ (∃ i j, x = .str i ∧ y = .str j ∧ i.length + j.length ≤ sizeLine ∧ Q (.str (i ++ j)) H)) ∨ (rCatA K x y H Q ∨ rCat x y H Q)
theorem op_Add : OpR X (binaryOp .Add) (r0Add X.K) := OpR.or (OpR.or op_add op_add_str) (OpR.or op_catA op_cat)
theorem RWs.eq_nil {K : PySem.W.Frag} {H : Hp} {M : Mp} {ws : List W} {vs : List V} (r : RWs K H M ws vs) : vs = [] ↔ ws = [] := by
  have h := r.length
  constructor
  · intro e
    subst e
    exact List.length_eq_zero_iff.mp h
  · intro e
    subst e
    exact List.length_eq_zero_iff.mp h.symm
theorem fit_Add : Fits2 B rAdd (r0Add B.K) := by
  intro x y v u H M Q' Q n rx ry h c
  have lists : (match x.asL M, y.asL M with
    | some a, some b => a.length + b.length ≤ sizeLine ∧ Q' (.lst (a ++ b)) M
    | _, _ => False) → r0Add B.K v u H Q := by
    intro h
    cases ea : x.asL M with
    | none => rw [ea] at h; exact h.elim
    | some a =>
      cases eb : y.asL M with
      | none => rw [ea, eb] at h; exact h.elim
      | some b =>
        rw [ea, eb] at h
        obtain ⟨p, vs, rfl, h1, h2⟩ := asL_of n.sim ea rx
        obtain ⟨q, us, rfl, g1, g2⟩ := asL_of n.sim eb ry
        refine .inr (.inr ⟨p, q, vs, us, rfl, rfl, h1, g1, by rw [← h2.length, ← g2.length]; exact h.1, fun r hr => ?_⟩)
        exact c _ M _ _ (n.fresh hr) (Fr2.fresh hr) (rw_lst n.sim hr (h2.append g2)) h.2
  unfold rAdd at h
  split at h
  · unfold RW at rx ry
    exact .inl (.inl ⟨_, _, rx, ry, c _ M _ H n Fr2.refl rw_int h⟩)
  · unfold RW at rx ry
    exact .inl (.inr ⟨_, _, rx, ry, h.1, c _ M _ H n Fr2.refl rw_str h.2⟩)
  · rename_i a b
    obtain ⟨p, vs, rfl, h1, h2⟩ := tup_of rx
    obtain ⟨q, us, rfl, g1, g2⟩ := tup_of ry
    refine .inr (.inl ⟨p, q, vs, us, rfl, rfl, h1, g1, by rw [← h2.length, ← g2.length]; exact h.1, fun e => ?_, fun _ e => ?_, fun _ _ r hr => ?_⟩)
    · have e' := h2.eq_nil.mp e
      subst e'
      exact c _ M _ H n Fr2.refl ry h.2
    · have e' := g2.eq_nil.mp e
      subst e'
      rw [List.append_nil] at h
      exact c _ M _ H n Fr2.refl rx h.2
    · exact c _ M _ _ (n.fresh hr) (Fr2.fresh hr) (rw_tup n.sim hr (h2.append g2)) h.2
  · exact lists h
variable {a b : Expr} {ta tb : WE} {pos : Pos}
theorem e_add (hK : X.K = B.K) (ha : EE X B a ta) (hb : EE X B b tb) : EE X B (.BinOp a .Add b pos) (wOp rAdd ta tb) := e_op (r0 := r0Add B.K) (by rw [← hK]; exact op_Add) fit_Add ha hb
/-- + of two lists: the new one may change -/
def rAddM : W2 := fun x y M Q => match x.asL M, y.asL M with
    | some a, some b => a.length + b.length ≤ sizeLine ∧ ∀ p, M p = none → Q (.ref p) (M.upd p (.lst (a ++ b)))
    | _, _ => False
theorem fit_AddM : Fits2 B rAddM (rCat) := by
  intro x y v u H M Q' Q n rx ry h c
  unfold rAddM at h
  cases ea : x.asL M with
    | none => rw [ea] at h; exact h.elim
    | some a =>
      cases eb : y.asL M with
      | none => rw [ea, eb] at h; exact h.elim
      | some b =>
        rw [ea, eb] at h
        obtain ⟨p, vs, rfl, h1, h2⟩ := asL_of n.sim ea rx
        obtain ⟨q, us, rfl, g1, g2⟩ := asL_of n.sim eb ry
        refine ⟨p, q, vs, us, rfl, rfl, h1, g1, by rw [← h2.length, ← g2.length]; exact h.1, fun r hr => ?_⟩
        exact c _ _ _ _ (n.allocL hr (h2.append g2)) (Fr2.alloc hr) rw_ref (h.2 r (n.sim.no hr))
theorem e_addM (ha : EE X B a ta) (hb : EE X B b tb) : EE X B (.BinOp a .Add b pos) (wOp rAddM ta tb) := e_op op_cat fit_AddM ha hb
def rSubW : W2 := fun x y M Q => match x, y with
  | .int i, .int j => Q (.int (i - j)) M
  | _, _ => False
theorem fit_Sub : Fits2 B rSubW (rI0 fun i j => .int (i - j)) := by
  intro x y v u H M Q' Q n rx ry h c
  unfold rSubW at h
  split at h
  · unfold RW at rx ry
    exact ⟨_, _, rx, ry, c _ M _ H n Fr2.refl rw_int h⟩
  · exact h.elim
def rMulW : W2 := fun x y M Q => match x, y with
  | .int i, .int j => CMul i j ∧ Q (.int (i * j)) M
  | _, _ => False
theorem fit_Mul : Fits2 B rMulW (rI (fun i j => CMul i j) fun i j => .int (i * j)) := by
  intro x y v u H M Q' Q n rx ry h c
  unfold rMulW at h
  split at h
  · unfold RW at rx ry
    exact ⟨_, _, rx, ry, h.1, c _ M _ H n Fr2.refl rw_int h.2⟩
  · exact h.elim
def rDivW : W2 := fun x y M Q => match x, y with
  | .int i, .int j => CDiv i j ∧ Q (.int (i / j)) M
  | _, _ => False
theorem fit_Div : Fits2 B rDivW (rI (fun i j => CDiv i j) fun i j => .int (i / j)) := by
  intro x y v u H M Q' Q n rx ry h c
  unfold rDivW at h
  split at h
  · unfold RW at rx ry
    exact ⟨_, _, rx, ry, h.1, c _ M _ H n Fr2.refl rw_int h.2⟩
  · exact h.elim
def rModW : W2 := fun x y M Q => match x, y with
  | .int i, .int j => 0 < j ∧ Q (.int (i % j)) M
  | _, _ => False
theorem fit_Mod : Fits2 B rModW (rI (fun i j => 0 < j) fun i j => .int (i % j)) := by
  intro x y v u H M Q' Q n rx ry h c
  unfold rModW at h
  split at h
  · unfold RW at rx ry
    exact ⟨_, _, rx, ry, h.1, c _ M _ H n Fr2.refl rw_int h.2⟩
  · exact h.elim
def rPowW : W2 := fun x y M Q => match x, y with
  | .int i, .int j => CPow i j ∧ Q (.int (i ^ j.toNat)) M
  | _, _ => False
theorem fit_Pow : Fits2 B rPowW (rI (fun i j => CPow i j) fun i j => .int (i ^ j.toNat)) := by
  intro x y v u H M Q' Q n rx ry h c
  unfold rPowW at h
  split at h
  · unfold RW at rx ry
    exact ⟨_, _, rx, ry, h.1, c _ M _ H n Fr2.refl rw_int h.2⟩
  · exact h.elim
theorem e_sub (ha : EE X B a ta) (hb : EE X B b tb) : EE X B (.BinOp a .Sub b pos) (wOp rSubW ta tb) := e_op op_sub fit_Sub ha hb
theorem e_mul (ha : EE X B a ta) (hb : EE X B b tb) : EE X B (.BinOp a .Mult b pos) (wOp rMulW ta tb) := e_op op_mul fit_Mul ha hb
theorem e_fdiv (ha : EE X B a ta) (hb : EE X B b tb) : EE X B (.BinOp a .FloorDiv b pos) (wOp rDivW ta tb) := e_op op_fdiv fit_Div ha hb
theorem e_mod (ha : EE X B a ta) (hb : EE X B b tb) : EE X B (.BinOp a .Mod b pos) (wOp rModW ta tb) := e_op op_mod fit_Mod ha hb
theorem e_pow (ha : EE X B a ta) (hb : EE X B b tb) : EE X B (.BinOp a .Pow b pos) (wOp rPowW ta tb) := e_op op_pow fit_Pow ha hb
/-- -a -/
def wNeg (ta : WE) : WE := fun τ M Q => ta τ M fun x M1 => match x with | .int i => Q (.int (-i)) M1 | _ => False
theorem e_neg (ha : EE X B a ta) : EE X B (.UnaryOp .USub a pos) (wNeg ta) := PE.imp (pe_un un_neg ha) fun σ H Q h => by
  obtain ⟨τ, M, Q', n, rs, h, c⟩ := h
  refine ⟨τ, M, _, n, rs, h, fun k M1 v H1 n1 f1 r1 h1 => ?_⟩
  cases k with
  | int k =>
    unfold RW at r1
    exact ⟨k, r1, c _ M1 _ H1 n1 f1 rw_int h1⟩
  | _ => exact h1.elim

/-! ### comparisons -/
/-- scalars that are compared at once -/
def W.sc : W → W → Bool
  | .non, .non => true
  | .bl _, .bl _ => true
  | .int _, .int _ => true
  | .str _, .str _ => true
  | .non, .int _ => true
  | .int _, .non => true
  | .non, .str _ => true
  | .str _, .non => true
  | .non, .bl _ => true
  | .bl _, .non => true
  | .int _, .str _ => true
  | .str _, .int _ => true
  | .bl _, .str _ => true
  | .str _, .bl _ => true
  | _, _ => false
theorem sc_of {K : PySem.W.Frag} {H : Hp} {M : Mp} {x y : W} {v u : V} (h : x.sc y = true) (rx : RW K H M x v) (ry : RW K H M y u) : scal v u = true ∧ decide (v = u) = weq x y := by
  unfold W.sc at h
  split at h <;> first | (cases h; done) | skip
  all_goals (unfold RW at rx ry; subst rx ry; refine ⟨rfl, ?_⟩)
  all_goals (simp only [weq, W.D, PyData.eqv])
  · rfl
  · exact dec_bl
  · exact dec_int
  · exact dec_str
  all_goals rfl
def eqAns (ng : Bool) (b : Bool) : Bool := if ng then !b else b
def rEqW (ng : Bool) : W2 := fun x y M Q => match x.sc y with
  | true => Q (.bl (eqAns ng (weq x y))) M
  | false => okD (x.dr M) = true ∧ okD (y.dr M) = true ∧ Q (.bl (eqAns ng (weq (x.dr M) (y.dr M)))) M
def r0Eq (K : PySem.W.Frag) : R2 := fun x y H Q => rEq x y H Q ∨ rEqD K x y H Q
def r0Ne (K : PySem.W.Frag) : R2 := fun x y H Q => rNe x y H Q ∨ rNeD K x y H Q
theorem fit_Eq : Fits2 B (rEqW false) (r0Eq B.K) := by
  intro x y v u H M Q' Q n rx ry h c
  unfold rEqW at h
  split at h
  · rename_i hs
    obtain ⟨h1, h2⟩ := sc_of hs rx ry
    exact .inl ⟨h1, by rw [h2]; exact c _ M _ H n Fr2.refl rw_bl h⟩
  · exact .inr ⟨_, _, dr_dp n.sim h.1 rx, dr_dp n.sim h.2.1 ry, h.1, h.2.1, c _ M _ H n Fr2.refl rw_bl h.2.2⟩
theorem fit_Ne : Fits2 B (rEqW true) (r0Ne B.K) := by
  intro x y v u H M Q' Q n rx ry h c
  unfold rEqW at h
  split at h
  · rename_i hs
    obtain ⟨h1, h2⟩ := sc_of hs rx ry
    exact .inl ⟨h1, by rw [h2]; exact c _ M _ H n Fr2.refl rw_bl h⟩
  · exact .inr ⟨_, _, dr_dp n.sim h.1 rx, dr_dp n.sim h.2.1 ry, h.1, h.2.1, c _ M _ H n Fr2.refl rw_bl h.2.2⟩
theorem op_Eq (hu : X.A.units + 64 < cLine) : OpR X (compareOp .Eq) (r0Eq X.K) := OpR.or op_eq (op_eqD hu)
theorem op_Ne (hu : X.A.units + 64 < cLine) : OpR X (compareOp .NotEq) (r0Ne X.K) := OpR.or op_ne (op_neD hu)
theorem e_eq (hK : X.K = B.K) (hu : X.A.units + 64 < cLine) (ha : EE X B a ta) (hb : EE X B b tb) : EE X B (.Compare a [.Eq] [b] pos) (wOp (rEqW false) ta tb) := e_cmp (r0 := r0Eq B.K) (by rw [← hK]; exact op_Eq hu) fit_Eq ha hb (nomark _)
theorem e_ne (hK : X.K = B.K) (hu : X.A.units + 64 < cLine) (ha : EE X B a ta) (hb : EE X B b tb) : EE X B (.Compare a [.NotEq] [b] pos) (wOp (rEqW true) ta tb) := e_cmp (r0 := r0Ne B.K) (by rw [← hK]; exact op_Ne hu) fit_Ne ha hb (nomark _)
theorem t_eq (hK : X.K = B.K) (hu : X.A.units + 64 < cLine) (ha : EE X B a ta) (hb : EE X B b tb) : ET X B (.Compare a [.Eq] [b] pos) (wB (wOp (rEqW false) ta tb)) := t_cmp (r0 := r0Eq B.K) (by rw [← hK]; exact op_Eq hu) fit_Eq ha hb (nomark _)
theorem t_ne (hK : X.K = B.K) (hu : X.A.units + 64 < cLine) (ha : EE X B a ta) (hb : EE X B b tb) : ET X B (.Compare a [.NotEq] [b] pos) (wB (wOp (rEqW true) ta tb)) := t_cmp (r0 := r0Ne B.K) (by rw [← hK]; exact op_Ne hu) fit_Ne ha hb (nomark _)
def rOrd (g : Int → Int → Bool) : W2 := fun x y M Q => match x, y with
  | .int i, .int j => Q (.bl (g i j)) M
  | _, _ => False
theorem fit_ord {g : Int → Int → Bool} : Fits2 B (rOrd g) (rI0 fun i j => .bl (g i j)) := by
  intro x y v u H M Q' Q n rx ry h c
  unfold rOrd at h
  split at h
  · unfold RW at rx ry
    exact ⟨_, _, rx, ry, c _ M _ H n Fr2.refl rw_bl h⟩
  · exact h.elim
def ltB (i j : Int) : Bool := decide (i < j)
def leB (i j : Int) : Bool := decide (i ≤ j)
def gtB (i j : Int) : Bool := decide (j < i)
def geB (i j : Int) : Bool := decide (j ≤ i)
theorem ltT {i j : Int} (h : i < j) : ltB i j = true := decide_eq_true h
theorem ltF {i j : Int} (h : ¬ i < j) : ltB i j = false := decide_eq_false h
theorem leT {i j : Int} (h : i ≤ j) : leB i j = true := decide_eq_true h
theorem leF {i j : Int} (h : ¬ i ≤ j) : leB i j = false := decide_eq_false h
theorem gtT {i j : Int} (h : j < i) : gtB i j = true := decide_eq_true h
theorem gtF {i j : Int} (h : ¬ j < i) : gtB i j = false := decide_eq_false h
theorem geT {i j : Int} (h : j ≤ i) : geB i j = true := decide_eq_true h
theorem geF {i j : Int} (h : ¬ j ≤ i) : geB i j = false := decide_eq_false h
abbrev rLtW : W2 := rOrd ltB
abbrev rLeW : W2 := rOrd leB
abbrev rGtW : W2 := rOrd gtB
abbrev rGeW : W2 := rOrd geB
theorem e_lt (ha : EE X B a ta) (hb : EE X B b tb) : EE X B (.Compare a [.Lt] [b] pos) (wOp rLtW ta tb) := e_cmp op_lt fit_ord ha hb (nomark _)
theorem e_le (ha : EE X B a ta) (hb : EE X B b tb) : EE X B (.Compare a [.LtE] [b] pos) (wOp rLeW ta tb) := e_cmp op_le fit_ord ha hb (nomark _)
theorem e_gt (ha : EE X B a ta) (hb : EE X B b tb) : EE X B (.Compare a [.Gt] [b] pos) (wOp rGtW ta tb) := e_cmp op_gt fit_ord ha hb (nomark _)
theorem e_ge (ha : EE X B a ta) (hb : EE X B b tb) : EE X B (.Compare a [.GtE] [b] pos) (wOp rGeW ta tb) := e_cmp op_ge fit_ord ha hb (nomark _)
theorem t_lt (ha : EE X B a ta) (hb : EE X B b tb) : ET X B (.Compare a [.Lt] [b] pos) (wB (wOp rLtW ta tb)) := t_cmp op_lt fit_ord ha hb (nomark _)
theorem t_le (ha : EE X B a ta) (hb : EE X B b tb) : ET X B (.Compare a [.LtE] [b] pos) (wB (wOp rLeW ta tb)) := t_cmp op_le fit_ord ha hb (nomark _)
theorem t_gt (ha : EE X B a ta) (hb : EE X B b tb) : ET X B (.Compare a [.Gt] [b] pos) (wB (wOp rGtW ta tb)) := t_cmp op_gt fit_ord ha hb (nomark _)
theorem t_ge (ha : EE X B a ta) (hb : EE X B b tb) : ET X B (.Compare a [.GtE] [b] pos) (wB (wOp rGeW ta tb)) := t_cmp op_ge fit_ord ha hb (nomark _)
/-- a < b < c -/
def wChain (r r' : W2) (ta tb tc : WE) : WE := fun τ M Q => ta τ M fun x M1 => tb τ M1 fun y M2 => r x y M2 fun z M3 => match z with
  | .bl true => tc τ M3 fun w M4 => r' y w M4 Q
  | .bl false => Q (.bl false) M3
  | _ => False
theorem le_chain {r r' : W2} {r0 r0' : R2} (f : Fits2 B r r0) (f' : Fits2 B r' r0') {ta tb tc : WE} (σ : St) (H : Hp) (Q : VK) (h : LE B (wChain r r' ta tb tc) σ H Q) : tChain r0 r0' (LE B ta) (LE B tb) (LE B tc) σ H Q := by
  obtain ⟨τ, M, Q', n, rs, h, c⟩ := h
  refine ⟨τ, M, _, n, rs, h, fun x M1 v H1 n1 f1 r1 h1 => ?_⟩
  refine ⟨τ, M1, _, n1, rs.mono f1, h1, fun y M2 u H2 n2 f2 r2 h2 => ?_⟩
  refine f x y v u H2 M2 _ _ n2 (r1.mono f2) r2 h2 fun z M3 vz H3 n3 f3 r3 h3 => ?_
  cases z with
  | bl k =>
    unfold RW at r3
    refine ⟨k, r3, ?_⟩
    cases k with
    | true =>
      refine iteT ⟨τ, M3, _, n3, rs.mono ((f1.trans f2).trans f3), h3, fun w M4 vw H4 n4 f4 r4 h4 => ?_⟩
      exact f' y w u vw H4 M4 _ _ n4 (r2.mono (f3.trans f4)) r4 h4 fun w' M' v' H' n' ff r' q => c w' M' v' H' n' ((((f1.trans f2).trans f3).trans f4).trans ff) r' q
    | false => exact iteF (c _ M3 _ H3 n3 ((f1.trans f2).trans f3) rw_bl h3)
  | _ => exact h3.elim
variable {cE : Expr} {tc : WE}
end
end L3

/-! L3Loop: for, while, list comprehensions over trees: the items are told at once. -/
namespace L3
open PySem PySem.Spec L2

/-! ### what is walked -/
/-- J walks the items l, whatever happens to what may change -/
def IterW (B : BB) (J : It) (l : List W) (H : Hp) (M : Mp) : Prop := ∀ H' M', Now B H' M' → Fr2 H M H' M' → ∀ i : Nat,
  (∀ w, l[i]? = some w → J.go i H' ∧ ∀ x H'', J.yld i H' x H'' → Now B H'' M' ∧ Fr2 H' M' H'' M' ∧ RW B.K H'' M' w x) ∧ (l.length ≤ i → J.stop i H')
abbrev WI := SW → Mp → (List W → Mp → Prop) → Prop
def LI (B : BB) (t : WI) : TI := fun σ H R => ∃ τ M Q', Now B H M ∧ RSt B.K H M τ σ ∧ t τ M Q' ∧ ∀ l M' J H', Now B H' M' → Fr2 H M H' M' → IterW B J l H' M' → Q' l M' → R J H'
theorem PI.imp {X : Cx} {tg e : Expr} {t u : TI} (h : PI X tg e t) (i : ∀ σ H R, u σ H R → t σ H R) : PI X tg e u := ⟨fun pins s σ H R I q => h.run pins s σ H R I (i σ H R q)⟩
abbrev EI (X : Cx) (B : BB) (tg e : Expr) (t : WI) : Prop := PI X tg e (LI B t)

section
variable {X : Cx} {B : BB} {tg : Expr}
def wiSeq (te : WE) : WI := fun τ M Q => te τ M fun w M1 => match w with
  | .lst l => Q l M1
  | .rol l => Q l M1
  | _ => False
/-- for over a list that stands -/
theorem i_list (hK : X.K = B.K) {e : Expr} {te : WE} (he : EE X B e te) : EI X B tg e (wiSeq te) := PI.imp (pi_list he) fun σ H R h => by
  obtain ⟨τ, M, Q', n, rs, h, c⟩ := h
  refine ⟨τ, M, _, n, rs, h, fun w M' v H' n' f' r' q => ?_⟩
  have go : ∀ {a : Addr} {vs : List V} {l : List W}, ((Rd H' a (.lst vs) ∧ M' a = none) ∨ KL B.K a vs) → RWs B.K H' M' l vs → v = .ref a → Q' l M' → ∃ a, v = .ref a ∧ (∃ xs, SqL X.K H' a xs) ∧ R (Itl X.K a) H' := by
    intro a vs l h1 h2 e q
    rw [hK]
    refine ⟨a, e, ⟨vs, sqL_of h1⟩, c l M' (Itl B.K a) H' n' f' ?_ q⟩
    intro H2 M2 n2 f2 i
    have hq : SqL B.K H2 a vs := by
      rcases h1 with ⟨h, k⟩ | h
      · exact .inl (f2.rd h k).1
      · exact .inr h
    refine ⟨fun w e => ?_, fun hi => ⟨vs, hq, by rw [← h2.length]; exact hi⟩⟩
    obtain ⟨v, e1, r1⟩ := h2.get e
    refine ⟨⟨vs, v, hq, e1⟩, fun x H'' y => ?_⟩
    obtain ⟨e2, y⟩ := y
    subst e2
    have e3 := y vs hq
    rw [e1] at e3
    cases e3
    exact ⟨n2, Fr2.refl, r1.mono f2⟩
  cases w with
  | lst l =>
    unfold RW at r'
    obtain ⟨a, vs, e, ⟨h1, h1'⟩, h2⟩ := r'
    exact go (.inl ⟨.inl h1, h1'⟩) h2 e q
  | rol l =>
    unfold RW at r'
    obtain ⟨a, vs, e, h1, h2⟩ := r'
    exact go h1 h2 e q
  | _ => exact q.elim
def wiTup (te : WE) : WI := fun τ M Q => te τ M fun w M1 => match w with
  | .tup l => Q l M1
  | _ => False
theorem i_tup (hK : X.K = B.K) {e : Expr} {te : WE} (he : EE X B e te) : EI X B tg e (wiTup te) := PI.imp (pi_tup he) fun σ H R h => by
  obtain ⟨τ, M, Q', n, rs, h, c⟩ := h
  refine ⟨τ, M, _, n, rs, h, fun w M' v H' n' f' r' q => ?_⟩
  cases w with
  | tup l =>
    unfold RW at r'
    obtain ⟨a, vs, e, h1, h2⟩ := r'
    rw [hK]
    refine ⟨a, e, ⟨vs, sqT_of h1⟩, c l M' (Itt B.K a) H' n' f' ?_ q⟩
    intro H2 M2 n2 f2 i
    have hq : SqT B.K H2 a vs := by
      rcases h1 with ⟨h, k⟩ | h
      · exact .inl (f2.rd h k).1
      · exact .inr h
    refine ⟨fun w e => ?_, fun hi => ⟨vs, hq, by rw [← h2.length]; exact hi⟩⟩
    obtain ⟨v, e1, r1⟩ := h2.get e
    refine ⟨⟨vs, v, hq, e1⟩, fun x H'' y => ?_⟩
    obtain ⟨e2, y⟩ := y
    subst e2
    have e3 := y vs hq
    rw [e1] at e3
    cases e3
    exact ⟨n2, Fr2.refl, r1.mono f2⟩
  | _ => exact q.elim
def rangeW (lo : Int) (n : Nat) : List W := (List.range n).map fun i => .int (lo + (i : Nat))
theorem iter_range {lo : Int} {n : Nat} {H : Hp} {M : Mp} : IterW B (Itr lo n) (rangeW lo n) H M := by
  intro H2 M2 n2 f2 i
  refine ⟨fun w e => ?_, fun hi => by unfold rangeW at hi; exact (show n ≤ i by simpa using hi)⟩
  unfold rangeW at e
  rw [List.getElem?_map] at e
  by_cases hi : i < n
  · rw [List.getElem?_range hi] at e
    cases e
    refine ⟨hi, fun x H'' y => ?_⟩
    obtain ⟨e2, y⟩ := y
    subst e2 y
    exact ⟨n2, Fr2.refl, rw_int⟩
  · rw [List.getElem?_eq_none (by simpa using Nat.le_of_not_lt hi)] at e
    cases e
def wiR1 (t : WA) : WI := fun τ M Q => t τ M fun ws M1 => match ws with
  | [.int j] => (-(2 ^ 62) ≤ j ∧ j < 2 ^ 62) ∧ Q (rangeW 0 j.toNat) M1
  | _ => False
def wiR2 (t : WA) : WI := fun τ M Q => t τ M fun ws M1 => match ws with
  | [.int i, .int j] => (-(2 ^ 62) ≤ i ∧ i < 2 ^ 62 ∧ -(2 ^ 62) ≤ j ∧ j < 2 ^ 62) ∧ Q (rangeW i (j - i).toNat) M1
  | _ => False
theorem i_range1 {a : Expr} {t : WA} {p pos : Pos} (hg : Gl X "range") (hm : X.mg "range" = none) (ha : EA X B [a] t) (hs : starEach [a] X.env = [(false, eval a X.env)] := by rfl) : EI X B tg (.Call (.Name "range" p) [a] [] pos) (wiR1 t) :=
  PI.imp (pi_range1 hg hm ha hs) fun σ H R h => by
    obtain ⟨τ, M, Q', n, rs, h, c⟩ := h
    refine ⟨τ, M, _, n, rs, h, fun ws M' vs H' n' f' r' q => ?_⟩
    split at q
    · rename_i j
      unfold RWs at r'
      obtain ⟨v, r, rfl, r1, r2⟩ := r'
      unfold RW at r1
      unfold RWs at r2
      subst r1 r2
      exact ⟨j, rfl, q.1.1, q.1.2, c _ M' _ H' n' f' iter_range q.2⟩
    · exact q.elim
theorem i_range2 {a b : Expr} {t : WA} {p pos : Pos} (hg : Gl X "range") (hm : X.mg "range" = none) (ha : EA X B [a, b] t) (hs : starEach [a, b] X.env = [(false, eval a X.env), (false, eval b X.env)] := by rfl) (hs2 : starEach [b] X.env = [(false, eval b X.env)] := by rfl) :
    EI X B tg (.Call (.Name "range" p) [a, b] [] pos) (wiR2 t) :=
  PI.imp (pi_range2 hg hm ha hs hs2) fun σ H R h => by
    obtain ⟨τ, M, Q', n, rs, h, c⟩ := h
    refine ⟨τ, M, _, n, rs, h, fun ws M' vs H' n' f' r' q => ?_⟩
    split at q
    · rename_i i j
      unfold RWs at r'
      obtain ⟨v, r, rfl, r1, r2⟩ := r'
      unfold RWs at r2
      obtain ⟨v2, r', rfl, r3, r4⟩ := r2
      unfold RW at r1 r3
      unfold RWs at r4
      subst r1 r3 r4
      exact ⟨i, j, rfl, q.1, c _ M' _ H' n' f' iter_range q.2⟩
    · exact q.elim
/-- for c in text -/
def signsW (x : Str) : List W := x.cps.toList.map fun c => .str ⟨#[c]⟩
def wiStr (te : WE) : WI := fun τ M Q => te τ M fun w M1 => match w with
  | .str x => Q (signsW x) M1
  | _ => False
theorem i_str {e : Expr} {te : WE} (he : EE X B e te) : EI X B tg e (wiStr te) := PI.imp (pi_str he) fun σ H R h => by
  obtain ⟨τ, M, Q', n, rs, h, c⟩ := h
  refine ⟨τ, M, _, n, rs, h, fun w M' v H' n' f' r' q => ?_⟩
  cases w with
  | str x =>
    unfold RW at r'
    refine ⟨x, r', c _ M' (Its x) H' n' f' ?_ q⟩
    intro H2 M2 n2 f2 i
    refine ⟨fun w e => ?_, fun hi => by unfold signsW at hi; exact (show x.cps.size ≤ i by simpa using hi)⟩
    unfold signsW at e
    rw [List.getElem?_map] at e
    cases e0 : x.cps.toList[i]? with
    | none => rw [e0] at e; cases e
    | some cc =>
      rw [e0] at e
      cases e
      have e1 : x.cps[i]? = some cc := by simpa using e0
      refine ⟨?_, fun y H'' hy => ?_⟩
      · have := (List.getElem?_eq_some_iff.mp e0).1
        exact (show i < x.cps.size by simpa using this)
      · obtain ⟨e2, c2, e3, rfl⟩ := hy
        subst e2
        rw [e1] at e3
        cases e3
        exact ⟨n2, Fr2.refl, rw_str⟩
  | _ => exact q.elim
/-- for i, x in enumerate(list) -/
def enumW (l : List W) : List W := l.zipIdx.map fun p => .tup [.int (p.2 : Nat), p.1]
def wiEnum (t : WA) : WI := fun τ M Q => t τ M fun ws M1 => match ws with
  | [.lst l] => Q (enumW l) M1
  | [.rol l] => Q (enumW l) M1
  | _ => False
theorem iter_enum {a : Addr} {vs : List V} {ws : List W} {H : Hp} {M : Mp} (h1 : (Rd H a (.lst vs) ∧ M a = none) ∨ KL B.K a vs) (r : RWs B.K H M ws vs) : IterW B (Ite B.K a) (enumW ws) H M := by
  intro H2 M2 n2 f2 i
  have hq : SqL B.K H2 a vs := by
    rcases h1 with ⟨h, k⟩ | h
    · exact .inl (f2.rd h k).1
    · exact .inr h
  have hlen : (enumW ws).length = ws.length := by unfold enumW; simp
  refine ⟨fun w e => ?_, fun hi => ⟨vs, hq, by rw [← r.length, ← hlen]; exact hi⟩⟩
  unfold enumW at e
  rw [List.getElem?_map, List.getElem?_zipIdx] at e
  cases e0 : ws[i]? with
  | none => rw [e0] at e; cases e
  | some w0 =>
    rw [e0] at e
    cases e
    obtain ⟨v, e1, r1⟩ := r.get e0
    refine ⟨⟨vs, v, hq, e1⟩, fun x H'' y => ?_⟩
    obtain ⟨T, x', rfl, hT, rfl, y⟩ := y
    have e3 := y vs hq
    rw [e1] at e3
    cases e3
    refine ⟨n2.fresh hT, Fr2.fresh hT, rw_tup n2.sim hT (RWs.cons ?_ (RWs.cons (r1.mono f2) RWs.nil))⟩
    show RW _ _ _ (.int ((0 + i : Nat) : Int)) _
    rw [Nat.zero_add]
    exact rw_int
theorem i_enum (hK : X.K = B.K) {e : Expr} {t : WA} {p pos tpos : Pos} {elts : List Expr} {kk : Nat} (hg : Gl X "enumerate") (hm : X.mg "enumerate" = none) (ha : EA X B [e] t) (hs : starEach [e] X.env = [(false, eval e X.env)] := by rfl) :
    EI X B (.Tuple elts kk tpos) (.Call (.Name "enumerate" p) [e] [] pos) (wiEnum t) := PI.imp (pi_enum hg hm ha hs) fun σ H R h => by
  obtain ⟨τ, M, Q', n, rs, h, c⟩ := h
  refine ⟨τ, M, _, n, rs, h, fun ws M' vs H' n' f' r' q => ?_⟩
  rw [hK]
  split at q
  · unfold RWs at r'
    obtain ⟨v, r, rfl, r1, r2⟩ := r'
    unfold RWs at r2
    subst r2
    unfold RW at r1
    obtain ⟨a, us, rfl, ⟨h1, h1'⟩, h2⟩ := r1
    exact ⟨a, us, rfl, SqL.of h1, c _ M' _ H' n' f' (iter_enum (.inl ⟨.inl h1, h1'⟩) h2) q⟩
  · unfold RWs at r'
    obtain ⟨v, r, rfl, r1, r2⟩ := r'
    unfold RWs at r2
    subst r2
    unfold RW at r1
    obtain ⟨a, us, rfl, h1, h2⟩ := r1
    exact ⟨a, us, rfl, sqL_of h1, c _ M' _ H' n' f' (iter_enum h1 h2) q⟩
  · exact q.elim

/-! ### for -/
def wForL (g : WG) (tb : WS) (D : WEnds) : List W → SW → Mp → Prop
  | [], τ, M => D.nx τ M
  | x :: xs, τ, M => g x τ M fun τ2 M2 => tb { D with nx := wForL g tb D xs, ct := wForL g tb D xs, bk := D.nx } τ2 M2
/-- the same, not unfolded by itself -/
@[irreducible] def ForL (g : WG) (tb : WS) (D : WEnds) (l : List W) (τ : SW) (M : Mp) : Prop := wForL g tb D l τ M
theorem ForL.of {g : WG} {tb : WS} {D : WEnds} {l : List W} {τ : SW} {M : Mp} (h : wForL g tb D l τ M) : ForL g tb D l τ M := by unfold ForL; exact h
theorem ForL.to {g : WG} {tb : WS} {D : WEnds} {l : List W} {τ : SW} {M : Mp} (h : ForL g tb D l τ M) : wForL g tb D l τ M := by unfold ForL at h; exact h
theorem for_nil {g : WG} {tb : WS} {D : WEnds} {τ : SW} {M : Mp} (h : D.nx τ M) : ForL g tb D [] τ M := .of h
theorem for_cons {g : WG} {tb : WS} {D : WEnds} {x : W} {xs : List W} {τ : SW} {M : Mp} (h : g x τ M fun τ2 M2 => tb { D with nx := ForL g tb D xs, ct := ForL g tb D xs, bk := D.nx } τ2 M2) : ForL g tb D (x :: xs) τ M := by
  have e : ForL g tb D xs = wForL g tb D xs := by funext τ M; unfold ForL; rfl
  rw [e] at h
  exact .of h
def wFor (wi : WI) (g : WG) (tb : WS) : WS := fun D τ M => wi τ M fun l M1 => ForL g tb D l τ M1
theorem s_for {iter : Expr} {body : List Stmt} {wi : WI} {g : WG} {tb : WS} {pos : Pos} (hp : PassesOwn (model X.prog X.w) X.A X.env X.xe) (hc : X.calm = true) (hi : EI X B tg iter wi) (hg : EG X B tg g) (hb : ESs X B body tb)
    (hs : ∀ x, foldedSetIterable iter X.env x = pure x := by intro _; rfl) : ES X B (.For tg iter body [] pos) (wFor wi g tb) := PS.imp (ps_for hp hc hi hg hb hs) fun D σ H h => by
  obtain ⟨τ, M, D', n, rs, h, c⟩ := h
  refine ⟨τ, M, _, n, rs, h, fun l M1 J H1 n1 f1 it q => ?_⟩
  have q := q.to
  refine ⟨fun i m σ' H' => m = l.length - i ∧ i ≤ l.length ∧ ∃ τ' M', Now B H' M' ∧ Fr2 H1 M1 H' M' ∧ RSt B.K H' M' τ' σ' ∧ wForL g tb D' (l.drop i) τ' M',
    ⟨l.length, by simp, Nat.zero_le _, τ, M1, n1, Fr2.refl, rs.mono f1, q⟩, ?_⟩
  rintro i m σ2 H2 ⟨rfl, hi, τ2, M2, n2, f2, rs2, q2⟩
  obtain ⟨hgo, hstop⟩ := it H2 M2 n2 f2 i
  by_cases hlt : i < l.length
  · obtain ⟨go, yl⟩ := hgo _ (List.getElem?_eq_getElem hlt)
    refine .inr ⟨go, fun σ' H' => ∃ τ' M', Now B H' M' ∧ Fr2 H1 M1 H' M' ∧ RSt B.K H' M' τ' σ' ∧ wForL g tb D' (l.drop (i + 1)) τ' M', fun σ' H' z => ⟨l.length - (i + 1), by omega, rfl, hlt, z⟩, fun x H3 y => ?_⟩
    obtain ⟨n3, f3, r3⟩ := yl x H3 y
    rw [List.drop_eq_getElem_cons hlt] at q2
    refine ⟨_, τ2, M2, _, n3, rs2.mono f3, r3, q2, fun τ4 M4 σ4 H4 n4 f4 rs4 q4 => ?_⟩
    have fa := f2.trans (f3.trans f4)
    refine ⟨τ4, M4, _, n4, rs4, q4, ⟨fun τ5 M5 σ5 H5 n5 f5 rs5 q5 => ⟨τ5, M5, n5, fa.trans f5, rs5, q5⟩, c.nx.go (f1.trans fa), fun τ5 M5 σ5 H5 n5 f5 rs5 q5 => ⟨τ5, M5, n5, fa.trans f5, rs5, q5⟩, fun w M5 v H5 n5 f5 r5 q5 => c.rt w M5 v H5 n5 ((f1.trans fa).trans f5) r5 q5⟩⟩
  · have e : i = l.length := by omega
    subst e
    rw [List.drop_length] at q2
    exact .inl ⟨hstop (Nat.le_refl _), c.nx τ2 M2 σ2 H2 n2 (f1.trans f2) rs2 q2⟩
/-- by an invariant of what is left, the slots and M -/
theorem for_pos {g : WG} {tb : WS} {D : WEnds} (I : List W → SW → Mp → Prop) (hs : ∀ x xs τ M (k : SW → Mp → Prop), I (x :: xs) τ M → (∀ τ' M', I xs τ' M' → k τ' M') → g x τ M fun τ2 M2 => tb { D with nx := k, ct := k, bk := D.nx } τ2 M2)
    (hd : ∀ τ M, I [] τ M → D.nx τ M) : ∀ {l : List W} {τ : SW} {M : Mp}, I l τ M → ForL g tb D l τ M
  | [], τ, M, h => for_nil (hd τ M h)
  | x :: xs, τ, M, h => for_cons (hs x xs τ M _ h fun τ' M' h' => for_pos I hs hd h')
/-- by an invariant that stays, C of each item -/
theorem for_go {g : WG} {tb : WS} {D : WEnds} (C : W → Prop) (I : SW → Mp → Prop) {l : List W} {τ : SW} {M : Mp} (hc : ∀ x ∈ l, C x) (h0 : I τ M) (hs : ∀ x τ M (k : SW → Mp → Prop), C x → I τ M → (∀ τ' M', I τ' M' → k τ' M') → g x τ M fun τ2 M2 => tb { D with nx := k, ct := k, bk := D.nx } τ2 M2)
    (hd : ∀ τ M, I τ M → D.nx τ M) : ForL g tb D l τ M :=
  for_pos (fun l τ M => (∀ x ∈ l, C x) ∧ I τ M) (fun x xs τ M k h hk => hs x τ M k (h.1 x List.mem_cons_self) h.2 fun τ' M' i' => hk τ' M' ⟨fun y hy => h.1 y (List.mem_cons_of_mem _ hy), i'⟩) (fun τ M h => hd τ M h.2) ⟨hc, h0⟩
/-! ### while -/
def wWhileN (c : WT) (tb : WS) (D : WEnds) : Nat → SW → Mp → Prop
  | 0, _, _ => False
  | n + 1, τ, M => c τ M fun b M1 => match b with | true => tb { D with nx := wWhileN c tb D n, ct := wWhileN c tb D n, bk := D.nx } τ M1 | false => D.nx τ M1
def wWhile (c : WT) (tb : WS) : WS := fun D τ M => ∃ n, wWhileN c tb D n τ M
theorem s_while {cE : Expr} {body : List Stmt} {tc : WT} {tb : WS} {pos : Pos} (hp : PassesOwn (model X.prog X.w) X.A X.env X.xe) (hc : ET X B cE tc) (hb : ESs X B body tb) : ES X B (.While cE body [] pos) (wWhile tc tb) := PS.imp (ps_while hp hc hb) fun D σ H h => by
  obtain ⟨τ, M, D', n, rs, ⟨k, h⟩, c⟩ := h
  refine ⟨fun m σ' H' => ∃ τ' M', Now B H' M' ∧ Fr2 H M H' M' ∧ RSt B.K H' M' τ' σ' ∧ wWhileN tc tb D' m τ' M', ⟨k, τ, M, n, Fr2.refl, rs, h⟩, ?_⟩
  rintro m σ2 H2 ⟨τ2, M2, n2, f2, rs2, q2⟩
  cases m with
  | zero => exact q2.elim
  | succ m =>
    refine ⟨τ2, M2, _, n2, rs2, q2, fun b M3 H3 n3 f3 q3 => ?_⟩
    cases b with
    | false => exact iteF (c.nx τ2 M3 σ2 H3 n3 (f2.trans f3) (rs2.mono f3) q3)
    | true =>
      refine iteT ⟨fun σ' H' => ∃ τ' M', Now B H' M' ∧ Fr2 H M H' M' ∧ RSt B.K H' M' τ' σ' ∧ wWhileN tc tb D' m τ' M', fun σ' H' z => ⟨m, Nat.lt_succ_self _, z⟩, ?_⟩
      have fa := f2.trans f3
      exact ⟨τ2, M3, _, n3, rs2.mono f3, q3, ⟨fun τ5 M5 σ5 H5 n5 f5 rs5 q5 => ⟨τ5, M5, n5, fa.trans f5, rs5, q5⟩, c.nx.go fa, fun τ5 M5 σ5 H5 n5 f5 rs5 q5 => ⟨τ5, M5, n5, fa.trans f5, rs5, q5⟩, fun w M5 v H5 n5 f5 r5 q5 => c.rt w M5 v H5 n5 (fa.trans f5) r5 q5⟩⟩

/-! ### list comprehensions -/
theorem wipe_get (σ : L2.St) : ∀ (vs : List Nat) (i : Nat), (wipe σ vs)[i]? = if i ∈ vs then σ[i]?.map fun _ => none else σ[i]?
  | [], i => by simp [wipe]
  | v :: vs, i => by
    have ih := wipe_get σ vs
    unfold wipe
    rw [List.getElem?_set, ih, wipe_length]
    by_cases hv : v = i
    · subst hv
      simp only [if_true, List.mem_cons, true_or]
      by_cases hl : v < σ.length
      · simp [hl]
      · simp [hl, Nat.le_of_not_lt hl]
    · have hv' : ¬ i = v := fun e => hv e.symm
      simp only [hv, if_false, List.mem_cons, hv', false_or]
theorem wipe_set {σ : L2.St} {vs : List Nat} {i : Nat} {x : Option V} (h : i ∈ vs) : wipe (σ.set i x) vs = wipe σ vs := by
  apply List.ext_getElem?
  intro j
  rw [wipe_get, wipe_get]
  by_cases hj : j ∈ vs
  · rw [if_pos hj, if_pos hj, List.getElem?_set]
    by_cases e : i = j
    · subst e
      simp only [if_true]
      by_cases hl : i < σ.length
      · simp [hl]
      · simp [hl, Nat.le_of_not_lt hl]
    · rw [if_neg e]
  · have e : ¬ i = j := fun e => hj (e ▸ h)
    rw [if_neg hj, if_neg hj, List.getElem?_set, if_neg e]
theorem wipe_wipe {σ : L2.St} {vs : List Nat} : wipe (wipe σ vs) vs = wipe σ vs := by
  apply List.ext_getElem?
  intro j
  rw [wipe_get, wipe_get]
  by_cases hj : j ∈ vs
  · rw [if_pos hj, if_pos hj]
    cases σ[j]? <;> rfl
  · rw [if_neg hj, if_neg hj]
/-- what a comprehension's turn starts with -/
def wipeW (τ : SW) : List Nat → SW
  | [] => τ
  | v :: vs => (wipeW τ vs).set v none
theorem RSt.wipe {K : PySem.W.Frag} {H : Hp} {M : Mp} {τ : SW} {σ : L2.St} (r : RSt K H M τ σ) : ∀ vs : List Nat, RSt K H M (wipeW τ vs) (L2.wipe σ vs)
  | [] => r
  | v :: vs => by
    have ih := RSt.wipe r vs
    refine ⟨by unfold wipeW L2.wipe; simp [ih.1], fun i w e => ?_⟩
    unfold wipeW at e
    unfold L2.wipe
    by_cases hv : v = i
    · subst hv
      have hi : v < (wipeW τ vs).length := by
        have := (List.getElem?_eq_some_iff.mp e).1
        simpa using this
      rw [List.getElem?_set_self hi] at e
      cases e
    · rw [List.getElem?_set_ne hv] at e
      rw [List.getElem?_set_ne hv]
      exact ih.2 i w e
/-- a target that stores into the slots vs alone -/
def FitG (B : BB) (vs : List Nat) (g : WG) (g0 : TG) : Prop := ∀ (w : W) (τ : SW) (M : Mp) (v : V) (σ : L2.St) (H : Hp) (q : SW → Mp → Prop) (Q : L2.St → Hp → Prop), Now B H M → RSt B.K H M τ σ → RW B.K H M w v → g w τ M q →
  (∀ τ' σ', RSt B.K H M τ' σ' → wipe σ' vs = wipe σ vs → q τ' M → Q σ' H) → g0 v σ H Q
def FitGs (B : BB) (vs : List Nat) (g : WGs) (g0 : TGs) : Prop := ∀ (w : List W) (τ : SW) (M : Mp) (v : List V) (σ : L2.St) (H : Hp) (q : SW → Mp → Prop) (Q : L2.St → Hp → Prop), Now B H M → RSt B.K H M τ σ → RWs B.K H M w v → g w τ M q →
  (∀ τ' σ', RSt B.K H M τ' σ' → wipe σ' vs = wipe σ vs → q τ' M → Q σ' H) → g0 v σ H Q
theorem fg_name {vs : List Nat} {i : Nat} (h : i ∈ vs) : FitG B vs (gN i) (gName i) := fun w τ M v σ H q Q n rs r h1 c => c _ _ (rs.set i r) (wipe_set h) h1
theorem fgs_nil {vs : List Nat} : FitGs B vs gsNil gNil := fun w τ M v σ H q Q n rs r h1 c => by
  obtain ⟨e, h1⟩ := h1
  subst e
  unfold RWs at r
  exact ⟨r, c τ σ rs rfl h1⟩
theorem fgs_cons {vs : List Nat} {g : WG} {g0 : TG} {gs : WGs} {gs0 : TGs} (f : FitG B vs g g0) (fs : FitGs B vs gs gs0) : FitGs B vs (gsCons g gs) (gCons g0 gs0) := fun ws τ M v σ H q Q n rs r h1 c => by
  cases ws with
  | nil => exact h1.elim
  | cons w ws =>
    unfold RWs at r
    obtain ⟨v1, vr, e, r1, r2⟩ := r
    refine ⟨v1, vr, e, f w τ M v1 σ H _ _ n rs r1 h1 fun τ' σ' rs' e' q' => ?_⟩
    exact fs ws τ' M vr σ' H _ _ n rs' r2 q' fun τ2 σ2 rs2 e2 q2 => c τ2 σ2 rs2 (e2.trans e') q2
theorem fg_tup {vs : List Nat} {k : Nat} {gs : WGs} {gs0 : TGs} (fs : FitGs B vs gs gs0) : FitG B vs (gT k gs) (gTup B.K k gs0) := fun w τ M v σ H q Q n rs r h1 c => by
  cases w with
  | tup ws =>
    obtain ⟨a, us, e, ht, r⟩ := tup_of r
    exact ⟨a, us, e, ht, by rw [← r.length]; exact h1.1, fs ws τ M us σ H q Q n rs r h1.2 c⟩
  | _ => exact h1.elim
abbrev WT' := WT
def LTs (B : BB) (t : WT) : TT := LT B t
def wYes : WT := fun _ M Q => Q true M
theorem ts_nil : PTs X [] (LT B wYes) := ⟨fun pins s σ H Q I h => pts_nil.run pins s σ H Q I (by
  obtain ⟨τ, M, Q', n, rs, h, c⟩ := h
  exact c true M H n Fr2.refl h)⟩
theorem ts_one {c : Expr} {t : WT} (h : ET X B c t) : PTs X [c] (LT B t) := pts_one h
/-- the items from the left; acc is what was made so far, it stands at D -/
def wLcL (g : WG) (tt : WT) (te : WE) (τ : SW) (D : Addr) : List W → List W → Mp → (List W → Mp → Prop) → Prop
  | [], acc, M, Q => Q acc M
  | x :: xs, acc, M, Q => g x τ M fun τ2 M2 => tt τ2 M2 fun b M3 => match b with | true => te τ2 M3 fun y M4 => M4 D = some (.lst acc) ∧ acc.length < sizeLine ∧ wLcL g tt te τ D xs (acc ++ [y]) (M4.upd D (.lst (acc ++ [y]))) Q | false => wLcL g tt te τ D xs acc M3 Q
/-- the whole of it, not unfolded by itself -/
@[irreducible] def LcGo (g : WG) (tt : WT) (te : WE) (τ : SW) (l : List W) (M : Mp) (Q : WK) : Prop := ∀ D, M D = none → wLcL g tt te τ D l [] (M.upd D (.lst [])) fun r M2 => M2 D = some (.lst r) ∧ Q (.lst r) (M2.del D)
def wLc (wi : WI) (g : WG) (tt : WT) (te : WE) (vs : List Nat) : WE := fun τ M Q => wi τ M fun l M1 => LcGo g tt te (wipeW τ vs) l M1 Q
theorem le_lc {wi : WI} {g : WG} {g0 : TG} {tt : WT} {te : WE} {vs : List Nat} (fg : FitG B vs g g0) (σ : L2.St) (H : Hp) (Q : VK) (h : LE B (wLc wi g tt te vs) σ H Q) : tLc (LI B wi) g0 (LT B tt) (LE B te) vs σ H Q := by
  obtain ⟨τ, M, Q', n, rs, h, c⟩ := h
  refine ⟨τ, M, _, n, rs, h, fun l M1 J H1 n1 f1 it q D hD => ?_⟩
  unfold LcGo at q
  have q := q D (n1.sim.no hD)
  refine ⟨fun i m H' => m = l.length - i ∧ i ≤ l.length ∧ ∃ M' acc, Now B H' M' ∧ Fr2 H1 M1 H' M' ∧ wLcL g tt te (wipeW τ vs) D (l.drop i) acc M' fun r M2 => M2 D = some (.lst r) ∧ Q' (.lst r) (M2.del D),
    ⟨l.length, by simp, Nat.zero_le _, M1.upd D (.lst []), [], n1.allocL hD RWs.nil, Fr2.alloc hD, q⟩, ?_⟩
  rintro i m H2 ⟨rfl, hi, M2, acc, n2, f2, q2⟩
  obtain ⟨hgo, hstop⟩ := it H2 M2 n2 f2 i
  by_cases hlt : i < l.length
  · obtain ⟨go, yl⟩ := hgo _ (List.getElem?_eq_getElem hlt)
    refine .inr ⟨go, fun H' => ∃ M' acc, Now B H' M' ∧ Fr2 H1 M1 H' M' ∧ wLcL g tt te (wipeW τ vs) D (l.drop (i + 1)) acc M' fun r M2 => M2 D = some (.lst r) ∧ Q' (.lst r) (M2.del D),
      fun H' z => ⟨l.length - (i + 1), by omega, rfl, hlt, z⟩, fun x H3 y => ?_⟩
    obtain ⟨n3, f3, r3⟩ := yl x H3 y
    rw [List.drop_eq_getElem_cons hlt] at q2
    have rs3 : RSt B.K H3 M2 (wipeW τ vs) (wipe σ vs) := ((rs.mono f1).mono (f2.trans f3)).wipe vs
    refine fg _ _ _ _ _ _ _ _ n3 rs3 r3 q2 fun τ4 σ4 rs4 e4 q4 => ?_
    refine ⟨e4.trans wipe_wipe, τ4, M2, _, n3, rs4, q4, fun b M5 H5 n5 f5 q5 => ?_⟩
    have f15 := (f2.trans f3).trans f5
    cases b with
    | false => exact iteF ⟨M5, acc, n5, f15, q5⟩
    | true =>
      refine iteT ⟨τ4, M5, _, n5, rs4.mono f5, q5, fun w M6 v H6 n6 f6 r6 ⟨hm, hz, q6⟩ => ?_⟩
      obtain ⟨vacc, e6, ra⟩ := n6.sim D _ hm
      refine ⟨vacc, e6, by rw [← ra.length]; exact hz, M6.upd D (.lst (acc ++ [w])), acc ++ [w], ?_, (f15.trans f6).trans (Fr2.write hm), q6⟩
      exact n6.to (n6.sim.write hm ⟨_, upd_same, (ra.mono (Fr2.write hm)).append (RWs.cons (r6.mono (Fr2.write hm)) RWs.nil)⟩) (Fr2.write hm)
  · have e : i = l.length := by omega
    subst e
    rw [List.drop_length] at q2
    obtain ⟨hm, q2⟩ := q2
    exact .inl ⟨hstop (Nat.le_refl _), c (.lst acc) (M2.del D) _ H2 (n2.to n2.sim.del Fr2.del) ((f1.trans f2).trans Fr2.del) (RO.fz n2.sim hm) q2⟩
theorem e_lc {elt tg iter : Expr} {ifs : List Expr} {scope : Scope} {own : List (Str × Nat)} {pos : Pos} {wi : WI} {g : WG} {g0 : TG} {tt : WT} {te : WE} (fg : FitG B (own.map (·.2)) g g0) (hc : X.calm = true) (hN : X.N.Nodup) (hi : EI X B tg iter wi) (ok : BlkOk X.N X.env.scope scope own)
    (hg : ∀ (s : Shared) (H : Hp) (C : Addr) (cl : List (Str × Addr)) (fp : List Addr), PG (X.blk s H scope (compEnvC scope cl C X.env) fp) tg g0) (ht : ∀ (s : Shared) (H : Hp) (C : Addr) (cl : List (Str × Addr)) (fp : List Addr), PTs (X.blk s H scope (compEnvC scope cl C X.env) fp) ifs (LT B tt))
    (he : ∀ (s : Shared) (H : Hp) (C : Addr) (cl : List (Str × Addr)) (fp : List Addr), EE (X.blk s H scope (compEnvC scope cl C X.env) fp) B elt te) (hs : ∀ x, foldedSetIterable iter X.env x = pure x := by intro _; rfl) :
    EE X B (.ListComp elt [⟨tg, iter, ifs, 0⟩] scope pos) (wLc wi g tt te (own.map (·.2))) := PE.imp (pe_lc hc hN hi ok hg ht he hs) (le_lc fg)
theorem s_setLc {i : Nat} {y : Str} {py : Pos} {elt tg iter : Expr} {ifs : List Expr} {scope : Scope} {own : List (Str × Nat)} {pos spos : Pos} {wi : WI} {g : WG} {g0 : TG} {tt : WT} {te : WE} (fg : FitG B (own.map (·.2)) g g0) (hc : X.calm = true) (hN : X.N.Nodup) (hy : X.N[i]? = some y) (hyl : X.env.scope.names.lookup y = some .local)
    (hsw : swapsWith (.ListComp elt [⟨tg, iter, ifs, 0⟩] scope pos) (some (.Name y py)) spos.line X.env = pure true) (hi : EI X B tg iter wi) (ok : BlkOk X.N X.env.scope scope own)
    (hg : ∀ (s : Shared) (H : Hp) (C : Addr) (cl : List (Str × Addr)) (fp : List Addr), PG (X.blk s H scope (compEnvC scope cl C X.env) fp) tg g0) (ht : ∀ (s : Shared) (H : Hp) (C : Addr) (cl : List (Str × Addr)) (fp : List Addr), PTs (X.blk s H scope (compEnvC scope cl C X.env) fp) ifs (LT B tt))
    (he : ∀ (s : Shared) (H : Hp) (C : Addr) (cl : List (Str × Addr)) (fp : List Addr), EE (X.blk s H scope (compEnvC scope cl C X.env) fp) B elt te) (hs : ∀ x, foldedSetIterable iter X.env x = pure x := by intro _; rfl) :
    ES X B (.Assign [.Name y py] (.ListComp elt [⟨tg, iter, ifs, 0⟩] scope pos) spos) (wAsg (wLc wi g tt te (own.map (·.2))) (gN i)) := PS.imp (ps_setLc hc hN hy hyl hsw hi ok hg ht he hs) fun D σ H h => by
  obtain ⟨τ, M, D', n, rs, h, c⟩ := h
  refine le_lc fg σ H (fun x H1 => gName i x σ H1 D.nx) ⟨τ, M, _, n, rs, h, fun w M' v H' n' f' r' q => ?_⟩
  exact c.nx _ M' _ H' n' f' ((rs.mono f').set i r') q
/-- a comprehension whose turns leave M as it is -/
theorem lc_go {g : WG} {tt : WT} {te : WE} {τ : SW} {D : Addr} {Q : List W → Mp → Prop} (p : W → Bool) (f : W → W) : ∀ {l acc : List W} {M : Mp}, acc.length + l.length ≤ 100000 → M D = some (.lst acc) →
    (∀ x ∈ l, ∀ (M : Mp) (Q : WK) (R : Mp → Prop), (p x = true → Q (f x) M) → (p x = false → R M) → g x τ M fun τ2 M2 => tt τ2 M2 fun b M3 => match b with | true => te τ2 M3 Q | false => R M3) →
    Q (acc ++ (l.filter p).map f) (M.upd D (.lst (acc ++ (l.filter p).map f))) → wLcL g tt te τ D l acc M Q
  | [], acc, M, _, hD, _, q => by
    rw [List.filter_nil, List.map_nil, List.append_nil] at q
    have e : M.upd D (.lst acc) = M := by
      funext b
      by_cases hb : b = D
      · rw [hb, Mp.upd_same, hD]
      · rw [Mp.upd_ne hb]
    rw [e] at q
    exact q
  | x :: xs, acc, M, hl, hD, h, q => by
    rw [List.length_cons] at hl
    have h' : ∀ y ∈ xs, ∀ (M : Mp) (Q : WK) (R : Mp → Prop), (p y = true → Q (f y) M) → (p y = false → R M) → g y τ M fun τ2 M2 => tt τ2 M2 fun b M3 => match b with | true => te τ2 M3 Q | false => R M3 := fun y hy => h y (List.mem_cons_of_mem _ hy)
    refine h x List.mem_cons_self M (fun y M4 => M4 D = some (.lst acc) ∧ acc.length < sizeLine ∧ wLcL g tt te τ D xs (acc ++ [y]) (M4.upd D (.lst (acc ++ [y]))) Q) (fun M3 => wLcL g tt te τ D xs acc M3 Q) (fun e => ?_) (fun e => ?_)
    · refine ⟨hD, by rw [sizeLine_eq]; omega, lc_go p f (by rw [List.length_append, List.length_singleton]; omega) Mp.upd_same h' ?_⟩
      rw [List.filter_cons, if_pos e, List.map_cons] at q
      rw [Mp.upd_upd, List.append_assoc]
      exact q
    · refine lc_go p f (by omega) hD h' ?_
      rw [List.filter_cons, if_neg (by rw [e]; exact Bool.false_ne_true)] at q
      exact q
theorem lc_run {g : WG} {tt : WT} {te : WE} {τ : SW} {Q : WK} {l : List W} {M : Mp} (p : W → Bool) (f : W → W) (hl : l.length ≤ 100000)
    (h : ∀ x ∈ l, ∀ (M : Mp) (Q : WK) (R : Mp → Prop), (p x = true → Q (f x) M) → (p x = false → R M) → g x τ M fun τ2 M2 => tt τ2 M2 fun b M3 => match b with | true => te τ2 M3 Q | false => R M3)
    (q : Q (.lst ((l.filter p).map f)) M) : LcGo g tt te τ l M Q := by
  unfold LcGo
  intro D hD
  refine lc_go p f (by rw [List.length_nil]; omega) Mp.upd_same h ⟨Mp.upd_same, ?_⟩
  rw [Mp.upd_upd, Mp.del_upd hD]
  exact q
theorem lc_map {g : WG} {tt : WT} {te : WE} {τ : SW} {Q : WK} {l : List W} {M : Mp} (f : W → W) (hl : l.length ≤ 100000)
    (h : ∀ x ∈ l, ∀ (M : Mp) (Q : WK) (R : Mp → Prop), Q (f x) M → g x τ M fun τ2 M2 => tt τ2 M2 fun b M3 => match b with | true => te τ2 M3 Q | false => R M3)
    (q : Q (.lst (l.map f)) M) : LcGo g tt te τ l M Q :=
  lc_run (fun _ => true) f hl (fun x hx M Q R a _ => h x hx M Q R (a rfl)) (by rw [List.filter_eq_self.mpr (fun _ _ => rfl)]; exact q)
end
end L3

namespace L3
open PySem PySem.Spec L2
/-! ### a list or a tuple, by what it is -/
def iSeq (K : PySem.W.Frag) (tl : TE) : TI := fun σ H R => tl σ H fun x H1 => ∃ a, x = .ref a ∧ (((∃ xs, SqL K H1 a xs) ∧ R (Itl K a) H1) ∨ ((∃ xs, SqT K H1 a xs) ∧ R (Itt K a) H1))
theorem pi_seq {X : Cx} {tg l : Expr} {tl : TE} (hl : PE X l tl) : PI X tg l (iSeq X.K tl) := by
  refine ⟨fun pins s σ H R I h => ?_⟩
  refine thn (hl.run pins s σ H _ I h) fun v s1 ⟨x, H1, I1, r1, q1⟩ => ?_
  obtain ⟨a, e, q⟩ := q1
  subst e
  cases r1
  rcases q with ⟨⟨xs, hq⟩, q⟩ | ⟨⟨xs, hq⟩, q⟩
  · obtain ⟨its, rv, p, hz⟩ := I1.list hq
    refine wpAny_pyIter_list p.isList ?_
    refine ⟨s1.heap.objs.size, [s1.heap.objs.size], _, _, H1, rfl, I1.kept (t' := s1.toks) fun b o e => Heap.get?_push_of_some _ e, turn_list a _, ⟨_, Heap.get?_push_size _ rfl, rfl, rfl⟩, fun b hb => ?_, q⟩
    have e : b = s1.heap.objs.size := by simpa using hb
    subst e
    exact I1.fpOk (Nat.le_refl _) (I1.hok.fresh (Nat.le_refl _))
  · obtain ⟨its, rv, p, hz⟩ := I1.tuple hq
    refine wpAny_pyIter_tuple (show s1.heap.IsTuple a its.toArray from p) ?_
    refine ⟨s1.heap.objs.size, [s1.heap.objs.size], _, _, H1, rfl, I1.kept (t' := s1.toks) fun b o e => Heap.get?_push_of_some _ e, turn_tuple a _, ⟨_, Heap.get?_push_size _ rfl, rfl, rfl⟩, fun b hb => ?_, q⟩
    have e : b = s1.heap.objs.size := by simpa using hb
    subst e
    exact I1.fpOk (Nat.le_refl _) (I1.hok.fresh (Nat.le_refl _))
def wiS (te : WE) : WI := fun τ M Q => te τ M fun w M1 => match w with
  | .lst l => Q l M1
  | .rol l => Q l M1
  | .tup l => Q l M1
  | _ => False
theorem iter_l {B : BB} {a : Addr} {vs : List V} {l : List W} {H' : Hp} {M' : Mp} (h1 : (Rd H' a (.lst vs) ∧ M' a = none) ∨ KL B.K a vs) (h2 : RWs B.K H' M' l vs) : IterW B (Itl B.K a) l H' M' := by
  intro H2 M2 n2 f2 i
  have hq : SqL B.K H2 a vs := by
    rcases h1 with ⟨h, k⟩ | h
    · exact .inl (f2.rd h k).1
    · exact .inr h
  refine ⟨fun w e => ?_, fun hi => ⟨vs, hq, by rw [← h2.length]; exact hi⟩⟩
  obtain ⟨v, e1, r1⟩ := h2.get e
  refine ⟨⟨vs, v, hq, e1⟩, fun x H'' y => ?_⟩
  obtain ⟨e2, y⟩ := y
  subst e2
  have e3 := y vs hq
  rw [e1] at e3
  cases e3
  exact ⟨n2, Fr2.refl, r1.mono f2⟩
theorem iter_t {B : BB} {a : Addr} {vs : List V} {l : List W} {H' : Hp} {M' : Mp} (h1 : (Rd H' a (.tup vs) ∧ M' a = none) ∨ KT B.K a vs) (h2 : RWs B.K H' M' l vs) : IterW B (Itt B.K a) l H' M' := by
  intro H2 M2 n2 f2 i
  have hq : SqT B.K H2 a vs := by
    rcases h1 with ⟨h, k⟩ | h
    · exact .inl (f2.rd h k).1
    · exact .inr h
  refine ⟨fun w e => ?_, fun hi => ⟨vs, hq, by rw [← h2.length]; exact hi⟩⟩
  obtain ⟨v, e1, r1⟩ := h2.get e
  refine ⟨⟨vs, v, hq, e1⟩, fun x H'' y => ?_⟩
  obtain ⟨e2, y⟩ := y
  subst e2
  have e3 := y vs hq
  rw [e1] at e3
  cases e3
  exact ⟨n2, Fr2.refl, r1.mono f2⟩
theorem i_seq {X : Cx} {B : BB} {tg : Expr} (hK : X.K = B.K) {e : Expr} {te : WE} (he : EE X B e te) : EI X B tg e (wiS te) := PI.imp (pi_seq he) fun σ H R h => by
  obtain ⟨τ, M, Q', n, rs, h, c⟩ := h
  refine ⟨τ, M, _, n, rs, h, fun w M' v H' n' f' r' q => ?_⟩
  rw [hK]
  cases w with
  | lst l =>
    unfold RW at r'
    obtain ⟨a, vs, e, ⟨h1, h1'⟩, h2⟩ := r'
    exact ⟨a, e, .inl ⟨⟨vs, SqL.of h1⟩, c l M' _ H' n' f' (iter_l (.inl ⟨.inl h1, h1'⟩) h2) q⟩⟩
  | rol l =>
    unfold RW at r'
    obtain ⟨a, vs, e, h1, h2⟩ := r'
    exact ⟨a, e, .inl ⟨⟨vs, sqL_of h1⟩, c l M' _ H' n' f' (iter_l h1 h2) q⟩⟩
  | tup l =>
    unfold RW at r'
    obtain ⟨a, vs, e, h1, h2⟩ := r'
    exact ⟨a, e, .inr ⟨⟨vs, sqT_of h1⟩, c l M' _ H' n' f' (iter_t h1 h2) q⟩⟩
  | _ => exact q.elim
end L3

/-! L3Ops2: chains, in, is, subscripts, slices, truth, calls of built-ins, methods of lists. -/
namespace L3
open PySem PySem.Spec L2
section
variable {X : Cx} {B : BB} {a b cE : Expr} {ta tb tc : WE} {pos : Pos}
/-! ### == of scalars -/
theorem weq_str {a b : Str} : weq (.str a) (.str b) = (a == b) := by simp only [weq, W.D, PyData.eqv]
theorem weq_int {a b : Int} : weq (.int a) (.int b) = (a == b) := by simp only [weq, W.D, PyData.eqv]
theorem weq_bl {a b : Bool} : weq (.bl a) (.bl b) = (a == b) := by simp only [weq, W.D, PyData.eqv]
theorem weq_tup {a b : List W} : weq (.tup a) (.tup b) = PyData.eqvAll (W.Ds a) (W.Ds b) := by simp only [weq, W.D, PyData.eqv]
theorem weq_lst {a b : List W} : weq (.lst a) (.lst b) = PyData.eqvAll (W.Ds a) (W.Ds b) := by simp only [weq, W.D, PyData.eqv]
theorem eqvAll_nil : PyData.eqvAll (W.Ds []) (W.Ds []) = true := by simp only [W.Ds, PyData.eqvAll]
theorem eqvAll_cn {a : W} {l : List W} : PyData.eqvAll (W.Ds (a :: l)) (W.Ds []) = false := by simp only [W.Ds, PyData.eqvAll]
theorem eqvAll_nc {a : W} {l : List W} : PyData.eqvAll (W.Ds []) (W.Ds (a :: l)) = false := by simp only [W.Ds, PyData.eqvAll]
theorem eqvAll_cc {a b : W} {l r : List W} : PyData.eqvAll (W.Ds (a :: l)) (W.Ds (b :: r)) = (weq a b && PyData.eqvAll (W.Ds l) (W.Ds r)) := by simp only [W.Ds, PyData.eqvAll, weq]
/-! ### data that may be compared -/
mutual
def W.can : W → Bool
  | .non => true
  | .bl _ => true
  | .int _ => true
  | .str x => PySem.PyData.strOk x
  | .tup l => W.cans l
  | .lst l => W.cans l
  | .rol l => W.cans l
  | _ => false
def W.cans : List W → Bool
  | [] => true
  | w :: ws => w.can && W.cans ws
end
mutual
def W.dep : W → Nat
  | .tup l => W.deps l + 1
  | .lst l => W.deps l + 1
  | .rol l => W.deps l + 1
  | _ => 0
def W.deps : List W → Nat
  | [] => 0
  | w :: ws => max w.dep (W.deps ws)
end
mutual
theorem can_D : ∀ w : W, w.can = true → PyData.canLay0 w.D = true ∧ w.D.depth = w.dep
  | .non, _ => by simp only [W.D, PyData.canLay0, PyData.depth, W.dep, and_self]
  | .bl _, _ => by simp only [W.D, PyData.canLay0, PyData.depth, W.dep, and_self]
  | .int _, _ => by simp only [W.D, PyData.canLay0, PyData.depth, W.dep, and_self]
  | .str _, h => by simp only [W.can] at h; simp only [W.D, PyData.canLay0, PyData.depth, W.dep, h, and_self]
  | .tup l, h => by simp only [W.can] at h; simp only [W.D, PyData.canLay0, PyData.depth, W.dep, (can_Ds l h).1, (can_Ds l h).2, and_self]
  | .lst l, h => by simp only [W.can] at h; simp only [W.D, PyData.canLay0, PyData.depth, W.dep, (can_Ds l h).1, (can_Ds l h).2, and_self]
  | .rol l, h => by simp only [W.can] at h; simp only [W.D, PyData.canLay0, PyData.depth, W.dep, (can_Ds l h).1, (can_Ds l h).2, and_self]
  | .ty _, h => by simp only [W.can] at h; cases h
  | .ref _, h => by simp only [W.can] at h; cases h
  | .dic _ _, h => by simp only [W.can] at h; cases h
  | .ins _ _ _, h => by simp only [W.can] at h; cases h
theorem can_Ds : ∀ ws : List W, W.cans ws = true → PyData.canLayAll0 (W.Ds ws) = true ∧ PyData.depthAll (W.Ds ws) = W.deps ws
  | [], _ => by simp only [W.Ds, PyData.canLayAll0, PyData.depthAll, W.deps, and_self]
  | w :: ws, h => by
    simp only [W.cans, Bool.and_eq_true] at h
    simp only [W.Ds, PyData.canLayAll0, PyData.depthAll, W.deps, (can_D w h.1).1, (can_D w h.1).2, (can_Ds ws h.2).1, (can_Ds ws h.2).2, Bool.and_self, and_self]
end
theorem okD_of {w : W} (h : w.can = true) (hd : w.dep ≤ 64) : okD w = true := by
  obtain ⟨h1, h2⟩ := can_D w h
  unfold okD SeqAt.shaped
  rw [h1, h2, decide_eq_true hd]
  rfl
/-! ### what stands at an address of M -/
theorem asS_ref {M : Mp} {q : Addr} {l : List W} (h : M q = some (.lst l)) : W.asS M (.ref q) = some l := by simp only [W.asS, h]
theorem asR_ref {M : Mp} {q : Addr} {l : List W} (h : M q = some (.lst l)) : W.asR M (.ref q) = some l := by simp only [W.asR, h]
theorem asL_ref {M : Mp} {q : Addr} {l : List W} (h : M q = some (.lst l)) : W.asL M (.ref q) = some l := by simp only [W.asL, h]
theorem dr_ref {M : Mp} {q : Addr} {l : List W} (h : M q = some (.lst l)) : W.dr M (.ref q) = .lst l := by simp only [W.dr, h]
/-! ### chains, is None -/
theorem e_chain {op op' : CmpOp} {r r' : W2} {r0 r0' : R2} (ho : OpR X (compareOp op) r0) (ho' : OpR X (compareOp op') r0') (f : Fits2 B r r0) (f' : Fits2 B r' r0') (ha : EE X B a ta) (hb : EE X B b tb) (hc : EE X B cE tc)
    (hm : lastMarks [op, op'] [b, cE] = false := by with_unfolding_all rfl) : EE X B (.Compare a [op, op'] [b, cE] pos) (wChain r r' ta tb tc) := PE.imp (pe_chain ho ho' ha hb hc hm) (le_chain f f')
theorem t_chain {op op' : CmpOp} {r r' : W2} {r0 r0' : R2} (ho : OpR X (compareOp op) r0) (ho' : OpR X (compareOp op') r0') (f : Fits2 B r r0) (f' : Fits2 B r' r0') (ha : EE X B a ta) (hb : EE X B b tb) (hc : EE X B cE tc)
    (hm : lastMarks [op, op'] [b, cE] = false := by with_unfolding_all rfl) : ET X B (.Compare a [op, op'] [b, cE] pos) (wB (wChain r r' ta tb tc)) := PT.imp (pt_chain ho ho' ha hb hc hm) fun σ H Q h => by
  obtain ⟨τ, M, Q', n, rs, h, c⟩ := h
  exact le_chain f f' σ H _ ⟨τ, M, _, n, rs, h, fun x M1 v H1 n1 f1 r1 h1 => by
    cases x with
    | bl k =>
      unfold RW at r1
      exact ⟨k, r1, c k M1 H1 n1 f1 h1⟩
    | _ => exact h1.elim⟩
/-- is None, is not None -/
def W.isN : W → Bool
  | .non => true
  | _ => false
theorem isN_of {K : PySem.W.Frag} {H : Hp} {M : Mp} {w : W} {v : V} (r : RW K H M w v) : decide (v = V.non) = w.isN := by
  cases w with
  | non => unfold RW at r; rw [r]; rfl
  | bl _ => unfold RW at r; rw [r]; rfl
  | int _ => unfold RW at r; rw [r]; rfl
  | str _ => unfold RW at r; rw [r]; rfl
  | ty _ => unfold RW at r; rw [r]; rfl
  | ref _ => unfold RW at r; rw [r]; rfl
  | tup _ => unfold RW at r; obtain ⟨a, _, e, _⟩ := r; rw [e]; rfl
  | lst _ => unfold RW at r; obtain ⟨a, _, e, _⟩ := r; rw [e]; rfl
  | rol _ => unfold RW at r; obtain ⟨a, _, e, _⟩ := r; rw [e]; rfl
  | dic _ _ => unfold RW at r; obtain ⟨a, _, e, _⟩ := r; rw [e]; rfl
  | ins _ _ _ => unfold RW at r; obtain ⟨a, _, _, e, _⟩ := r; rw [e]; rfl
def rIsN (ng : Bool) : W2 := fun x y M Q => match y with
  | .non => Q (.bl (if ng then !x.isN else x.isN)) M
  | _ => False
theorem fit_isN : Fits2 B (rIsN false) (fun x y H Q => y = .non ∧ Q (.bl (decide (x = .non))) H) := by
  intro x y v u H M Q' Q n rx ry h c
  cases y with
  | non => unfold RW at ry; exact ⟨ry, by rw [isN_of rx]; exact c _ M _ H n Fr2.refl rw_bl h⟩
  | _ => exact h.elim
theorem fit_notN : Fits2 B (rIsN true) (fun x y H Q => y = .non ∧ Q (.bl (!decide (x = .non))) H) := by
  intro x y v u H M Q' Q n rx ry h c
  cases y with
  | non => unfold RW at ry; exact ⟨ry, by rw [isN_of rx]; exact c _ M _ H n Fr2.refl rw_bl h⟩
  | _ => exact h.elim
theorem e_is (ha : EE X B a ta) (hb : EE X B b tb) : EE X B (.Compare a [.Is] [b] pos) (wOp (rIsN false) ta tb) := e_cmp op_isN fit_isN ha hb (nomark _)
theorem e_isnot (ha : EE X B a ta) (hb : EE X B b tb) : EE X B (.Compare a [.IsNot] [b] pos) (wOp (rIsN true) ta tb) := e_cmp op_notN fit_notN ha hb (nomark _)
theorem t_is (ha : EE X B a ta) (hb : EE X B b tb) : ET X B (.Compare a [.Is] [b] pos) (wB (wOp (rIsN false) ta tb)) := t_cmp op_isN fit_isN ha hb (nomark _)
theorem t_isnot (ha : EE X B a ta) (hb : EE X B b tb) : ET X B (.Compare a [.IsNot] [b] pos) (wB (wOp (rIsN true) ta tb)) := t_cmp op_notN fit_notN ha hb (nomark _)

/-! ### in -/
def W.flat : W → Bool
  | .non => true
  | .bl _ => true
  | .int _ => true
  | .str _ => true
  | _ => false
theorem flat_of {K : PySem.W.Frag} {H : Hp} {M : Mp} {w : W} {v : V} (r : RW K H M w v) (h : w.flat = true) : flatV v = true := by
  cases w with
  | non => unfold RW at r; rw [r]; rfl
  | bl _ => unfold RW at r; rw [r]; rfl
  | int _ => unfold RW at r; rw [r]; rfl
  | str _ => unfold RW at r; rw [r]; rfl
  | _ => cases h
theorem eqV_of {K : PySem.W.Frag} {H : Hp} {M : Mp} {x y : W} {v u : V} (rx : RW K H M x v) (ry : RW K H M y u) (hx : x.flat = true) (hy : y.flat = true) : eqV v u = weq x y := by
  cases x with
  | non => cases y <;> first | (cases hy; done) | (unfold RW at rx ry; rw [rx, ry]; simp only [weq, W.D, PyData.eqv, eqV])
  | bl _ => cases y <;> first | (cases hy; done) | (unfold RW at rx ry; rw [rx, ry]; simp only [weq, W.D, PyData.eqv, eqV])
  | int _ => cases y <;> first | (cases hy; done) | (unfold RW at rx ry; rw [rx, ry]; simp only [weq, W.D, PyData.eqv, eqV])
  | str _ => cases y <;> first | (cases hy; done) | (unfold RW at rx ry; rw [rx, ry]; simp only [weq, W.D, PyData.eqv, eqV])
  | _ => cases hx
theorem any_of {K : PySem.W.Frag} {H : Hp} {M : Mp} {x : W} {v : V} (rx : RW K H M x v) (hx : x.flat = true) : ∀ {ws : List W} {vs : List V}, RWs K H M ws vs → ws.all W.flat = true → vs.all flatV = true ∧ inV v vs = ws.any fun z => weq z x
  | [], _, r, _ => by
    unfold RWs at r
    rw [r]
    exact ⟨rfl, rfl⟩
  | w :: ws, _, r, h => by
    unfold RWs at r
    obtain ⟨v1, vr, e, r1, r2⟩ := r
    rw [List.all_cons, Bool.and_eq_true] at h
    obtain ⟨i1, i2⟩ := any_of rx hx r2 h.2
    rw [e]
    unfold inV at i2 ⊢
    rw [List.all_cons, List.any_cons, List.any_cons, i1, i2, flat_of r1 h.1, eqV_of r1 rx h.1 hx]
    exact ⟨rfl, rfl⟩
/-- x in y: a text, or flat things, or a list of data -/
def rInW (ng : Bool) : W2 := fun x y M Q => match x, y with
  | .str i, .str j => Q (.bl (if ng then !(!(Builtin.Str.occurrences j i 0 j.length 1).isEmpty) else !(Builtin.Str.occurrences j i 0 j.length 1).isEmpty)) M
  | x, y => match y.asS M with
    | some l => x.flat = true ∧ l.all W.flat = true ∧ Q (.bl (if ng then !(l.any fun z => weq z x) else l.any fun z => weq z x)) M
    | none => False
theorem fit_In : Fits2 B (rInW false) (fun x y H Q => (∃ i j, x = .str i ∧ y = .str j ∧ Q (.bl (!(Builtin.Str.occurrences j i 0 j.length 1).isEmpty)) H) ∨ rIn B.K false x y H Q) := by
  intro x y v u H M Q' Q n rx ry h c
  unfold rInW at h
  split at h
  · unfold RW at rx ry
    exact .inl ⟨_, _, rx, ry, c _ M _ H n Fr2.refl rw_bl h⟩
  · cases e : y.asS M with
    | none => rw [e] at h; exact h.elim
    | some l =>
      rw [e] at h
      obtain ⟨p, vs, rfl, h1, h2⟩ := asS_of n.sim e ry
      obtain ⟨i1, i2⟩ := any_of rx h.1 h2 h.2.1
      refine .inr ⟨p, vs, rfl, h1, flat_of rx h.1, i1, ?_⟩
      rw [if_neg Bool.false_ne_true, i2]
      exact c _ M _ H n Fr2.refl rw_bl h.2.2
theorem fit_NotIn : Fits2 B (rInW true) (fun x y H Q => (∃ i j, x = .str i ∧ y = .str j ∧ Q (.bl (!(!(Builtin.Str.occurrences j i 0 j.length 1).isEmpty))) H) ∨ rIn B.K true x y H Q) := by
  intro x y v u H M Q' Q n rx ry h c
  unfold rInW at h
  split at h
  · unfold RW at rx ry
    exact .inl ⟨_, _, rx, ry, c _ M _ H n Fr2.refl rw_bl h⟩
  · cases e : y.asS M with
    | none => rw [e] at h; exact h.elim
    | some l =>
      rw [e] at h
      obtain ⟨p, vs, rfl, h1, h2⟩ := asS_of n.sim e ry
      obtain ⟨i1, i2⟩ := any_of rx h.1 h2 h.2.1
      refine .inr ⟨p, vs, rfl, h1, flat_of rx h.1, i1, ?_⟩
      rw [if_pos rfl, i2]
      exact c _ M _ H n Fr2.refl rw_bl h.2.2
theorem e_in (hK : X.K = B.K) (ha : EE X B a ta) (hb : EE X B b tb) (hm : behindInMarks .In b = false := by rfl) : EE X B (.Compare a [.In] [b] pos) (wOp (rInW false) ta tb) :=
  e_cmp (r0 := fun x y H Q => (∃ i j, x = .str i ∧ y = .str j ∧ Q (.bl (!(Builtin.Str.occurrences j i 0 j.length 1).isEmpty)) H) ∨ rIn B.K false x y H Q) (by rw [← hK]; exact OpR.or op_in_str op_in_seq) fit_In ha hb hm
theorem t_in (hK : X.K = B.K) (ha : EE X B a ta) (hb : EE X B b tb) (hm : behindInMarks .In b = false := by rfl) : ET X B (.Compare a [.In] [b] pos) (wB (wOp (rInW false) ta tb)) :=
  t_cmp (r0 := fun x y H Q => (∃ i j, x = .str i ∧ y = .str j ∧ Q (.bl (!(Builtin.Str.occurrences j i 0 j.length 1).isEmpty)) H) ∨ rIn B.K false x y H Q) (by rw [← hK]; exact OpR.or op_in_str op_in_seq) fit_In ha hb hm
theorem e_notin (hK : X.K = B.K) (ha : EE X B a ta) (hb : EE X B b tb) (hm : behindInMarks .NotIn b = false := by rfl) : EE X B (.Compare a [.NotIn] [b] pos) (wOp (rInW true) ta tb) :=
  e_cmp (r0 := fun x y H Q => (∃ i j, x = .str i ∧ y = .str j ∧ Q (.bl (!(!(Builtin.Str.occurrences j i 0 j.length 1).isEmpty))) H) ∨ rIn B.K true x y H Q) (by rw [← hK]; exact OpR.or op_notin_str op_notIn_seq) fit_NotIn ha hb hm
theorem t_notin (hK : X.K = B.K) (ha : EE X B a ta) (hb : EE X B b tb) (hm : behindInMarks .NotIn b = false := by rfl) : ET X B (.Compare a [.NotIn] [b] pos) (wB (wOp (rInW true) ta tb)) :=
  t_cmp (r0 := fun x y H Q => (∃ i j, x = .str i ∧ y = .str j ∧ Q (.bl (!(!(Builtin.Str.occurrences j i 0 j.length 1).isEmpty))) H) ∨ rIn B.K true x y H Q) (by rw [← hK]; exact OpR.or op_notin_str op_notIn_seq) fit_NotIn ha hb hm
/-- data of any depth in a list -/
def rInDW (ng : Bool) : W2 := fun x y M Q => match y.asR M with
    | some l => okD x = true ∧ okD (.lst l) = true ∧ Q (.bl (if ng then !(l.any fun z => weq z x) else l.any fun z => weq z x)) M
    | none => False
theorem any_Ds (l : List W) (d : PyData) : (W.Ds l).any (fun z => PyData.eqv z d) = l.any fun z => PyData.eqv z.D d := by
  induction l with
  | nil => unfold W.Ds; rfl
  | cons w ws ih => unfold W.Ds; rw [List.any_cons, List.any_cons, ih]
theorem dp_list {K : PySem.W.Frag} {H : Hp} {M : Mp} {l : List W} {a : Addr} {vs : List V} (h : okD (.lst l) = true) (h1 : SqL K H a vs) (h2 : RWs K H M l vs) : Dp K H (.ref a) (.list (W.Ds l)) := by
  have c := SeqAt.canLay_of_shaped h
  unfold W.D at c
  exact .lst h1 (RWs.dp l (by simpa only [PyData.canLay0] using c) h2)
theorem okD_list {l : List W} (h : okD (.lst l) = true) : SeqAt.shaped (.list (W.Ds l)) = true := by
  unfold okD at h
  simpa only [W.D] using h
theorem fit_InD : Fits2 B (rInDW false) (rInD B.K) := by
  intro x y v u H M Q' Q n rx ry h c
  unfold rInDW at h
  cases e : y.asR M with
  | none => rw [e] at h; exact h.elim
  | some l =>
    rw [e] at h
    obtain ⟨p, vs, rfl, h1, h2⟩ := asR_of n.sim e ry
    refine ⟨_, _, RW.dp x (SeqAt.canLay_of_shaped h.1) rx, dp_list h.2.1 h1 h2, h.1, okD_list h.2.1, ?_⟩
    rw [any_Ds]
    exact c _ M _ H n Fr2.refl rw_bl h.2.2
theorem fit_NotInD : Fits2 B (rInDW true) (rNotInD B.K) := by
  intro x y v u H M Q' Q n rx ry h c
  unfold rInDW at h
  cases e : y.asR M with
  | none => rw [e] at h; exact h.elim
  | some l =>
    rw [e] at h
    obtain ⟨p, vs, rfl, h1, h2⟩ := asR_of n.sim e ry
    refine ⟨_, _, RW.dp x (SeqAt.canLay_of_shaped h.1) rx, dp_list h.2.1 h1 h2, h.1, okD_list h.2.1, ?_⟩
    rw [any_Ds]
    exact c _ M _ H n Fr2.refl rw_bl h.2.2
theorem e_inD (hK : X.K = B.K) (hu : X.A.units + 65 < cLine) (ha : EE X B a ta) (hb : EE X B b tb) (hm : behindInMarks .In b = false := by rfl) : EE X B (.Compare a [.In] [b] pos) (wOp (rInDW false) ta tb) := e_cmp (r0 := rInD B.K) (by rw [← hK]; exact op_inD hu) fit_InD ha hb hm
theorem t_inD (hK : X.K = B.K) (hu : X.A.units + 65 < cLine) (ha : EE X B a ta) (hb : EE X B b tb) (hm : behindInMarks .In b = false := by rfl) : ET X B (.Compare a [.In] [b] pos) (wB (wOp (rInDW false) ta tb)) := t_cmp (r0 := rInD B.K) (by rw [← hK]; exact op_inD hu) fit_InD ha hb hm
theorem e_notinD (hK : X.K = B.K) (hu : X.A.units + 65 < cLine) (ha : EE X B a ta) (hb : EE X B b tb) (hm : behindInMarks .NotIn b = false := by rfl) : EE X B (.Compare a [.NotIn] [b] pos) (wOp (rInDW true) ta tb) := e_cmp (r0 := rNotInD B.K) (by rw [← hK]; exact op_notInD hu) fit_NotInD ha hb hm
theorem t_notinD (hK : X.K = B.K) (hu : X.A.units + 65 < cLine) (ha : EE X B a ta) (hb : EE X B b tb) (hm : behindInMarks .NotIn b = false := by rfl) : ET X B (.Compare a [.NotIn] [b] pos) (wB (wOp (rInDW true) ta tb)) := t_cmp (r0 := rNotInD B.K) (by rw [← hK]; exact op_notInD hu) fit_NotInD ha hb hm

/-! ### subscripts, slices -/
theorem atI_of {K : PySem.W.Frag} {H : Hp} {M : Mp} {ws : List W} {vs : List V} {i : Int} {w : W} (r : RWs K H M ws vs) (h : atI ws i = some w) : ∃ v, atI vs i = some v ∧ RW K H M w v := by
  unfold atI at h ⊢
  rw [r.length] at h
  cases e : ixN vs.length i with
  | none => rw [e] at h; cases h
  | some j =>
    rw [e] at h
    exact r.get h
def rIxW : W2 := fun x y M Q => match x, y with
  | .str z, .int i => z.length ≤ sizeLine ∧ (match atI z.cps.toList i with | some c => Q (.str ⟨#[c]⟩) M | none => False)
  | x, .int i => (match x.asS M with
    | some l => (match atI l i with | some w => Q w M | none => False)
    | none => False)
  | _, _ => False
theorem fit_ix : Fits2 B rIxW (L2.rIx B.K) := by
  intro x y v u H M Q' Q n rx ry h c
  unfold rIxW at h
  split at h
  · rename_i z i
    unfold RW at rx ry
    cases e : atI z.cps.toList i with
    | none => rw [e] at h; exact h.2.elim
    | some cc =>
      rw [e] at h
      exact .inr (.inr ⟨z, i, cc, rx, ry, h.1, e, c _ M _ H n Fr2.refl rw_str h.2⟩)
  · rename_i i _
    unfold RW at ry
    cases e : x.asS M with
    | none => rw [e] at h; exact h.elim
    | some l =>
      rw [e] at h
      dsimp only at h
      cases e2 : atI l i with
      | none => rw [e2] at h; exact h.elim
      | some w =>
        rw [e2] at h
        obtain ⟨p, vs, rfl, h1, h2⟩ := asS_of n.sim e rx
        obtain ⟨w', e3, r3⟩ := atI_of h2 e2
        rcases h1 with h1 | h1
        · exact .inl ⟨p, vs, i, w', rfl, ry, h1, e3, c _ M _ H n Fr2.refl r3 h⟩
        · exact .inr (.inl ⟨p, vs, i, w', rfl, ry, h1, e3, c _ M _ H n Fr2.refl r3 h⟩)
  · exact h.elim
theorem e_ix (hK : X.K = B.K) (ha : EE X B a ta) (hb : EE X B b tb) (hs : PlainIx b := by exact fun _ _ => rfl) : EE X B (.Subscript a b pos) (wOp rIxW ta tb) := PE.imp (pe_ix (r := L2.rIx X.K) ix_seq ha hb hs) (by rw [hK]; exact le_op fit_ix)
/-- a part of a slice -/
abbrev WO := SW → Mp → (Option Int → Mp → Prop) → Prop
def LO (B : BB) (t : WO) : TO := fun σ H Q => ∃ τ M Q', Now B H M ∧ RSt B.K H M τ σ ∧ t τ M Q' ∧ ∀ b M' H', Now B H' M' → Fr2 H M H' M' → Q' b M' → Q b H'
theorem PO.imp {X : Cx} {e : Option Expr} {t u : TO} (h : PO X e t) (i : ∀ σ H Q, u σ H Q → t σ H Q) : PO X e u := ⟨fun pins s σ H Q I q => h.run pins s σ H Q I (i σ H Q q)⟩
def wNoPart : WO := fun _ M Q => Q none M
def wPart (t : WE) : WO := fun τ M Q => t τ M fun x M1 => match x with | .int i => Q (some i) M1 | _ => False
theorem o_none : PO X none (LO B wNoPart) := PO.imp po_none fun σ H Q h => by
  obtain ⟨τ, M, Q', n, rs, h, c⟩ := h
  exact c none M H n Fr2.refl h
theorem o_some {e : Expr} {te : WE} (h : EE X B e te) : PO X (some e) (LO B (wPart te)) := PO.imp (po_some h) fun σ H Q h => by
  obtain ⟨τ, M, Q', n, rs, h, c⟩ := h
  refine ⟨τ, M, _, n, rs, h, fun w M' v H' n' f' r' q => ?_⟩
  cases w with
  | int i =>
    unfold RW at r'
    exact ⟨i, r', c _ M' H' n' f' q⟩
  | _ => exact q.elim
def cutL {α : Type} (xs : List α) (lo hi : Option Int) : List α := (xs.drop (HT.sIx xs.length 0 lo)).take (HT.sIx xs.length xs.length hi - HT.sIx xs.length 0 lo)
theorem cutL_of {K : PySem.W.Frag} {H : Hp} {M : Mp} {ws : List W} {vs : List V} (r : RWs K H M ws vs) (lo hi : Option Int) : RWs K H M (cutL ws lo hi) (cutV vs lo hi) := by
  unfold cutL cutV
  rw [r.length]
  exact (r.drop _).take _
def rSlW (x : W) (lo hi : Option Int) (M : Mp) (Q : WK) : Prop := match x with
  | .str z => z.length ≤ sizeLine ∧ Q (.str (cutS z lo hi)) M
  | .tup l => Q (.tup (cutL l lo hi)) M
  | x => match x.asR M with
    | some l => Q (.lst (cutL l lo hi)) M
    | none => False
def wSl (te : WE) (tl th : WO) : WE := fun τ M Q => te τ M fun x M1 => tl τ M1 fun l M2 => th τ M2 fun u M3 => rSlW x l u M3 Q
def r0Sl (K : PySem.W.Frag) : V → Option Int → Option Int → Hp → VK → Prop := fun x lo hi H Q => rSlS x lo hi H Q ∨ (rSlA K x lo hi H Q ∨ rSlL K x lo hi H Q)
theorem sl_any : SlR X (r0Sl X.K) := SlR.or sl_str (SlR.or sl_tupA sl_list)
theorem cut_whole {α : Type} {xs : List α} {lo hi : Option Int} (h : HT.sIx xs.length 0 lo = 0 ∧ HT.sIx xs.length xs.length hi = xs.length) : cutL xs lo hi = xs := by
  unfold cutL
  rw [h.1, h.2]
  simp
theorem e_slice {p2 : Pos} {lo hi : Option Expr} {te : WE} {tl th : WO} {e : Expr} (hK : X.K = B.K) (he : EE X B e te) (hl : PO X lo (LO B tl)) (hu : PO X hi (LO B th)) : EE X B (.Subscript e (.Slice lo hi none p2) pos) (wSl te tl th) :=
  PE.imp (pe_slice sl_any he hl hu) fun σ H Q h => by
    obtain ⟨τ, M, Q', n, rs, h, c⟩ := h
    refine ⟨τ, M, _, n, rs, h, fun x M1 v H1 n1 f1 r1 h1 => ?_⟩
    refine ⟨τ, M1, _, n1, rs.mono f1, h1, fun l M2 H2 n2 f2 h2 => ?_⟩
    refine ⟨τ, M2, _, n2, (rs.mono f1).mono f2, h2, fun u M3 H3 n3 f3 h3 => ?_⟩
    have fa := (f1.trans f2).trans f3
    have rx := (r1.mono f2).mono f3
    rw [hK]
    unfold rSlW at h3
    split at h3
    · unfold RW at rx
      exact .inl ⟨_, rx, h3.1, c _ M3 _ H3 n3 fa rw_str h3.2⟩
    · obtain ⟨p, vs, rfl, g1, g2⟩ := tup_of rx
      refine .inr (.inl ⟨p, vs, rfl, g1, fun w => ?_, fun _ q hq => ?_⟩)
      · rw [← g2.length] at w
        rw [cut_whole w] at h3
        exact c _ M3 _ H3 n3 fa rx h3
      · exact c _ M3 _ _ (n3.fresh hq) (fa.trans (Fr2.fresh hq)) (rw_tup n3.sim hq (cutL_of g2 _ _)) h3
    · cases e : x.asR M3 with
      | none => rw [e] at h3; exact h3.elim
      | some l' =>
        rw [e] at h3
        obtain ⟨p, vs, rfl, g1, g2⟩ := asR_of n3.sim e rx
        exact .inr (.inr ⟨p, vs, rfl, g1, fun q hq => c _ M3 _ _ (n3.fresh hq) (fa.trans (Fr2.fresh hq)) (rw_lst n3.sim hq (cutL_of g2 _ _)) h3⟩)

theorem sIx_pos {n d : Nat} {k : Int} (h : 0 ≤ k) : HT.sIx n d (some k) = min k.toNat n := by
  show (if k < 0 then (k + (n : Int)).toNat else min k.toNat n) = min k.toNat n
  rw [if_neg (by omega)]
theorem cutL_from {α : Type} {l : List α} {k : Int} (h : 0 ≤ k) : cutL l (some k) none = l.drop k.toNat := by
  unfold cutL
  rw [sIx_pos h, HT.sIx_none]
  rw [List.take_of_length_le (by rw [List.length_drop]; exact Nat.le_refl _)]
  rcases Nat.le_total k.toNat l.length with q | q
  · rw [Nat.min_eq_left q]
  · rw [Nat.min_eq_right q, List.drop_length, List.drop_of_length_le q]
theorem cutL_to {α : Type} {l : List α} {k : Int} (h : 0 ≤ k) : cutL l none (some k) = l.take k.toNat := by
  unfold cutL
  rw [sIx_pos h, HT.sIx_none, List.drop_zero, Nat.sub_zero]
  rcases Nat.le_total k.toNat l.length with q | q
  · rw [Nat.min_eq_left q]
  · rw [Nat.min_eq_right q, List.take_length, List.take_of_length_le q]
theorem cutL_1 {α : Type} {x : α} {l : List α} : cutL (x :: l) (some 1) none = l := cutL_from (by decide)
theorem cutL_map {α β : Type} (f : α → β) (l : List α) (lo hi : Option Int) : cutL (l.map f) lo hi = (cutL l lo hi).map f := by
  unfold cutL
  rw [List.length_map, List.map_take, List.map_drop]
/-! ### truth -/
def W.tru (M : Mp) : W → Option Bool
  | .non => some false
  | .bl b => some b
  | .int i => some (i != 0)
  | .tup l => some !l.isEmpty
  | .lst l => some !l.isEmpty
  | .rol l => some !l.isEmpty
  | .ref p => match M p with | some (.lst l) => some !l.isEmpty | _ => none
  | _ => none
theorem isEmpty_rw {K : PySem.W.Frag} {H : Hp} {M : Mp} {ws : List W} {vs : List V} (r : RWs K H M ws vs) : ws.isEmpty = vs.isEmpty := by
  have h := r.length
  cases ws <;> cases vs <;> first | rfl | (simp at h)
theorem tru_of {K : PySem.W.Frag} {H : Hp} {M : Mp} {w : W} {v : V} {k : Bool} (S : Sim K H M) (r : RW K H M w v) (h : w.tru M = some k) : TruV K v H k := by
  have seq : ∀ {l : List W}, w.asS M = some l → k = !l.isEmpty → TruV K v H k := by
    intro l e hk
    obtain ⟨a, vs, rfl, h1, h2⟩ := asS_of S e r
    rw [isEmpty_rw h2] at hk
    rcases h1 with h1 | h1
    · exact .inl ⟨vs, h1, hk⟩
    · exact .inr (.inl ⟨vs, h1, hk⟩)
  cases w with
  | non => unfold RW at r; rw [r]; exact (Option.some.inj h).symm
  | bl b => unfold RW at r; rw [r]; exact (Option.some.inj h).symm
  | int b => unfold RW at r; rw [r]; exact (Option.some.inj h).symm
  | tup l => exact seq rfl (Option.some.inj h).symm
  | lst l => exact seq rfl (Option.some.inj h).symm
  | rol l => exact seq rfl (Option.some.inj h).symm
  | ref p =>
    cases e : M p with
    | none => simp only [W.tru, e] at h; cases h
    | some o =>
      cases o with
      | lst l =>
        simp only [W.tru, e] at h
        exact seq (by simp only [W.asS, e]) (Option.some.inj h).symm
      | _ => simp only [W.tru, e] at h; cases h
  | _ => cases h
def wTru (t : WE) : WT := fun τ M Q => t τ M fun x M1 => match x.tru M1 with | some k => Q k M1 | none => False
theorem t_tru {e : Expr} {te : WE} (hK : X.K = B.K) (ha : EE X B e te) (he : ∀ whole, isTrue e X.env whole = (do let v ← whole; standAt e.pos; holding [v] (truthy v)) := by intro _; rfl) : ET X B e (wTru te) :=
  PT.imp (pt_truth ha he) fun σ H Q h => by
    obtain ⟨τ, M, Q', n, rs, h, c⟩ := h
    refine ⟨τ, M, _, n, rs, h, fun x M1 v H1 n1 f1 r1 h1 => ?_⟩
    cases e : x.tru M1 with
    | none => rw [e] at h1; exact h1.elim
    | some k =>
      rw [e] at h1
      exact ⟨k, by rw [hK]; exact tru_of n1.sim r1 e, c k M1 H1 n1 f1 h1⟩

/-! ### calls of built-ins -/
variable {e : Expr} {es : List Expr} {t : WA} {p : Pos}
theorem e_callB {r : WCall} {r0 : List V → Hp → VK → Prop} {x : Str} {id : String} (f : FitsC B r r0) (hc : CallR X (.builtin id) r0) (hg : Gl X x) (hm : X.mg x = none) (hv : bootBuiltins x = some (.builtin id)) (ha : EA X B (e :: es) t) (hn : x ≠ "__name__" := by decide) (hdb : (x == ("__debug__" : Str)) = false := by decide)
    (hs : starEach (e :: es) X.env = (false, eval e X.env) :: starEach es X.env := by rfl) (hplain : (backTo pos (starEach es X.env)).any (·.1) = false := by rfl) : EE X B (.Call (.Name x p) (e :: es) [] pos) (wCB r t) := PE.imp (pe_callB hc hg hm hv ha hn hdb hs hplain) (le_cb f)
theorem e_callTy {r : WCall} {r0 : List V → Hp → VK → Prop} {x : Str} {T : String} (f : FitsC B r r0) (hc : CallR X (.type T) r0) (hg : Gl X x) (hm : X.mg x = none) (hv : bootBuiltins x = some (.type T)) (ha : EA X B (e :: es) t) (hn : x ≠ "__name__" := by decide) (hdb : (x == ("__debug__" : Str)) = false := by decide)
    (hs : starEach (e :: es) X.env = (false, eval e X.env) :: starEach es X.env := by rfl) (hplain : (backTo pos (starEach es X.env)).any (·.1) = false := by rfl) : EE X B (.Call (.Name x p) (e :: es) [] pos) (wCB r t) := PE.imp (pe_callTy hc hg hm hv ha hn hdb hs hplain) (le_cb f)
theorem RWs.one {K : PySem.W.Frag} {H : Hp} {M : Mp} {w : W} {vs : List V} (r : RWs K H M [w] vs) : ∃ v, vs = [v] ∧ RW K H M w v := by
  unfold RWs at r
  obtain ⟨v, r', e, r1, r2⟩ := r
  unfold RWs at r2
  subst r2
  exact ⟨v, e, r1⟩
theorem RWs.two {K : PySem.W.Frag} {H : Hp} {M : Mp} {w x : W} {vs : List V} (r : RWs K H M [w, x] vs) : ∃ v u, vs = [v, u] ∧ RW K H M w v ∧ RW K H M x u := by
  unfold RWs at r
  obtain ⟨v, r', e, r1, r2⟩ := r
  obtain ⟨u, rfl, r3⟩ := r2.one
  exact ⟨v, u, e, r1, r3⟩
def rLen : WCall := fun ws M Q => match ws with
  | [.str z] => z.length ≤ sizeLine ∧ Q (.int z.length) M
  | [w] => (match w.asS M with | some l => Q (.int l.length) M | none => False)
  | _ => False
theorem fit_len : FitsC B rLen (fun xs H Q => ∃ x n, xs = [x] ∧ LenV B.K x H n ∧ Q (.int n) H) := by
  intro ws vs H M Q' Q n r h c
  unfold rLen at h
  split at h
  · obtain ⟨v, rfl, r1⟩ := r.one
    unfold RW at r1
    subst r1
    exact ⟨_, _, rfl, ⟨h.1, rfl⟩, c _ M _ H n Fr2.refl rw_int h.2⟩
  · rename_i w _
    obtain ⟨v, rfl, r1⟩ := r.one
    cases e : w.asS M with
    | none => rw [e] at h; exact h.elim
    | some l =>
      rw [e] at h
      obtain ⟨a, vs, rfl, h1, h2⟩ := asS_of n.sim e r1
      refine ⟨_, l.length, rfl, ?_, c _ M _ H n Fr2.refl rw_int h⟩
      rcases h1 with h1 | h1
      · exact .inl ⟨vs, h1, h2.length⟩
      · exact .inr ⟨vs, h1, h2.length⟩
  · exact h.elim
theorem e_len (hK : X.K = B.K) (hg : Gl X "len") (hm : X.mg "len" = none) (ha : EA X B (e :: es) t) (hs : starEach (e :: es) X.env = (false, eval e X.env) :: starEach es X.env := by rfl) (hplain : (backTo pos (starEach es X.env)).any (·.1) = false := by rfl) :
    EE X B (.Call (.Name "len" p) (e :: es) [] pos) (wCB rLen t) := e_callB (r0 := fun xs H Q => ∃ x n, xs = [x] ∧ LenV B.K x H n ∧ Q (.int n) H) fit_len (by rw [← hK]; exact call_len) hg hm PySem.boot_len ha (hs := hs) (hplain := hplain)
def rIntW : WCall := fun ws M Q => match ws with
  | [.int i] => Q (.int i) M
  | [.bl k] => Q (.int (if k then 1 else 0)) M
  | _ => False
theorem fit_intc : FitsC B rIntW (fun xs H Q => (∃ i, xs = [.int i] ∧ Q (.int i) H) ∨ ∃ k, xs = [.bl k] ∧ Q (.int (if k then 1 else 0)) H) := by
  intro ws vs H M Q' Q n r h c
  unfold rIntW at h
  split at h
  · obtain ⟨v, rfl, r1⟩ := r.one
    unfold RW at r1
    subst r1
    exact .inl ⟨_, rfl, c _ M _ H n Fr2.refl rw_int h⟩
  · obtain ⟨v, rfl, r1⟩ := r.one
    unfold RW at r1
    subst r1
    exact .inr ⟨_, rfl, c _ M _ H n Fr2.refl rw_int h⟩
  · exact h.elim
theorem e_int1 (hg : Gl X "int") (hm : X.mg "int" = none) (ha : EA X B (e :: es) t) (hs : starEach (e :: es) X.env = (false, eval e X.env) :: starEach es X.env := by rfl) (hplain : (backTo pos (starEach es X.env)).any (·.1) = false := by rfl) :
    EE X B (.Call (.Name "int" p) (e :: es) [] pos) (wCB rIntW t) := e_callTy fit_intc call_int1 hg hm (by decide +kernel) ha (hs := hs) (hplain := hplain)
def rAbs : WCall := fun ws M Q => match ws with
  | [.int i] => Q (.int (if i < 0 then -i else i)) M
  | _ => False
theorem fit_abs : FitsC B rAbs (fun xs H Q => ∃ i, xs = [.int i] ∧ Q (.int (if i < 0 then -i else i)) H) := by
  intro ws vs H M Q' Q n r h c
  unfold rAbs at h
  split at h
  · obtain ⟨v, rfl, r1⟩ := r.one
    unfold RW at r1
    subst r1
    exact ⟨_, rfl, c _ M _ H n Fr2.refl rw_int h⟩
  · exact h.elim
theorem e_abs (hg : Gl X "abs") (hm : X.mg "abs" = none) (ha : EA X B (e :: es) t) (hs : starEach (e :: es) X.env = (false, eval e X.env) :: starEach es X.env := by rfl) (hplain : (backTo pos (starEach es X.env)).any (·.1) = false := by rfl) :
    EE X B (.Call (.Name "abs" p) (e :: es) [] pos) (wCB rAbs t) := e_callB fit_abs call_abs hg hm (by decide +kernel) ha (hs := hs) (hplain := hplain)
def maxI (i j : Int) : Int := if j > i then j else i
def minI (i j : Int) : Int := if j < i then j else i
theorem maxI_eq (i j : Int) : maxI i j = max i j := by unfold maxI; split <;> omega
theorem minI_eq (i j : Int) : minI i j = min i j := by unfold minI; split <;> omega
def rMM (g : Int → Int → Int) : WCall := fun ws M Q => match ws with
  | [.int i, .int j] => Q (.int (g i j)) M
  | _ => False
theorem fit_mm {g : Int → Int → Int} : FitsC B (rMM g) (fun xs H Q => ∃ i j, xs = [.int i, .int j] ∧ Q (.int (g i j)) H) := by
  intro ws vs H M Q' Q n r h c
  unfold rMM at h
  split at h
  · obtain ⟨v, u, rfl, r1, r2⟩ := r.two
    unfold RW at r1 r2
    subst r1 r2
    exact ⟨_, _, rfl, c _ M _ H n Fr2.refl rw_int h⟩
  · exact h.elim
theorem e_max2 (hc : X.calm = true) (hg : Gl X "max") (hm : X.mg "max" = none) (ha : EA X B (e :: es) t) (hs : starEach (e :: es) X.env = (false, eval e X.env) :: starEach es X.env := by rfl) (hplain : (backTo pos (starEach es X.env)).any (·.1) = false := by rfl) :
    EE X B (.Call (.Name "max" p) (e :: es) [] pos) (wCB (rMM maxI) t) := e_callB fit_mm (call_max2 hc) hg hm (by decide +kernel) ha (hs := hs) (hplain := hplain)
theorem e_min2 (hc : X.calm = true) (hg : Gl X "min") (hm : X.mg "min" = none) (ha : EA X B (e :: es) t) (hs : starEach (e :: es) X.env = (false, eval e X.env) :: starEach es X.env := by rfl) (hplain : (backTo pos (starEach es X.env)).any (·.1) = false := by rfl) :
    EE X B (.Call (.Name "min" p) (e :: es) [] pos) (wCB (rMM minI) t) := e_callB fit_mm (call_min2 hc) hg hm (by decide +kernel) ha (hs := hs) (hplain := hplain)
/-- sum, all, any of a list -/
def intsW : List W → Option (List Int)
  | [] => some []
  | .int i :: r => (intsW r).map (i :: ·)
  | _ :: _ => none
def boolsW : List W → Option (List Bool)
  | [] => some []
  | .bl i :: r => (boolsW r).map (i :: ·)
  | _ :: _ => none
theorem intsW_map (ns : List Int) : intsW (ns.map W.int) = some ns := by
  induction ns with
  | nil => rfl
  | cons n ns ih => show (intsW (ns.map W.int)).map (n :: ·) = _; rw [ih]; rfl
theorem boolsW_map (ns : List Bool) : boolsW (ns.map W.bl) = some ns := by
  induction ns with
  | nil => rfl
  | cons n ns ih => show (boolsW (ns.map W.bl)).map (n :: ·) = _; rw [ih]; rfl
theorem intsW_of {K : PySem.W.Frag} {H : Hp} {M : Mp} : ∀ {ws : List W} {vs : List V} {ns : List Int}, RWs K H M ws vs → intsW ws = some ns → vs = ns.map V.int
  | [], _, ns, r, h => by
    unfold RWs at r
    cases h
    exact r
  | .int i :: ws, _, ns, r, h => by
    unfold RWs at r
    obtain ⟨v, r', e, r1, r2⟩ := r
    unfold RW at r1
    subst r1
    cases e2 : intsW ws with
    | none => simp only [intsW, e2] at h; cases h
    | some ms =>
      simp only [intsW, e2] at h
      cases h
      rw [e, intsW_of r2 e2]
      rfl
  | .non :: ws, _, ns, r, h => by cases h
  | .bl _ :: ws, _, ns, r, h => by cases h
  | .str _ :: ws, _, ns, r, h => by cases h
  | .ty _ :: ws, _, ns, r, h => by cases h
  | .ref _ :: ws, _, ns, r, h => by cases h
  | .tup _ :: ws, _, ns, r, h => by cases h
  | .lst _ :: ws, _, ns, r, h => by cases h
  | .rol _ :: ws, _, ns, r, h => by cases h
  | .dic _ _ :: ws, _, ns, r, h => by cases h
  | .ins _ _ _ :: ws, _, ns, r, h => by cases h
theorem boolsW_of {K : PySem.W.Frag} {H : Hp} {M : Mp} : ∀ {ws : List W} {vs : List V} {ns : List Bool}, RWs K H M ws vs → boolsW ws = some ns → vs = ns.map V.bl
  | [], _, ns, r, h => by
    unfold RWs at r
    cases h
    exact r
  | .bl i :: ws, _, ns, r, h => by
    unfold RWs at r
    obtain ⟨v, r', e, r1, r2⟩ := r
    unfold RW at r1
    subst r1
    cases e2 : boolsW ws with
    | none => simp only [boolsW, e2] at h; cases h
    | some ms =>
      simp only [boolsW, e2] at h
      cases h
      rw [e, boolsW_of r2 e2]
      rfl
  | .non :: ws, _, ns, r, h => by cases h
  | .int _ :: ws, _, ns, r, h => by cases h
  | .str _ :: ws, _, ns, r, h => by cases h
  | .ty _ :: ws, _, ns, r, h => by cases h
  | .ref _ :: ws, _, ns, r, h => by cases h
  | .tup _ :: ws, _, ns, r, h => by cases h
  | .lst _ :: ws, _, ns, r, h => by cases h
  | .rol _ :: ws, _, ns, r, h => by cases h
  | .dic _ _ :: ws, _, ns, r, h => by cases h
  | .ins _ _ _ :: ws, _, ns, r, h => by cases h
def rSumW : WCall := fun ws M Q => match ws with
  | [w] => (match w.asR M with
    | some l => (match intsW l with | some ns => Q (.int ns.sum) M | none => False)
    | none => False)
  | _ => False
theorem fit_sum : FitsC B rSumW (rSum B.K) := by
  intro ws vs H M Q' Q n r h c
  unfold rSumW at h
  split at h
  · rename_i w
    obtain ⟨v, rfl, r1⟩ := r.one
    cases e : w.asR M with
    | none => rw [e] at h; exact h.elim
    | some l =>
      rw [e] at h
      dsimp only at h
      cases e2 : intsW l with
      | none => rw [e2] at h; exact h.elim
      | some ns =>
        rw [e2] at h
        obtain ⟨a, vs, rfl, h1, h2⟩ := asR_of n.sim e r1
        exact ⟨a, ns, rfl, by rw [← intsW_of h2 e2]; exact h1, c _ M _ H n Fr2.refl rw_int h⟩
  · exact h.elim
theorem e_sum (hK : X.K = B.K) (hc : X.calm = true) (hg : Gl X "sum") (hm : X.mg "sum" = none) (ha : EA X B (e :: es) t) (hs : starEach (e :: es) X.env = (false, eval e X.env) :: starEach es X.env := by rfl) (hplain : (backTo pos (starEach es X.env)).any (·.1) = false := by rfl) :
    EE X B (.Call (.Name "sum" p) (e :: es) [] pos) (wCB rSumW t) := e_callB (r0 := rSum B.K) fit_sum (by rw [← hK]; exact cr_sum hc) hg hm (by decide +kernel) ha (hs := hs) (hplain := hplain)
def rAA (f : List Bool → Bool) : WCall := fun ws M Q => match ws with
  | [w] => (match w.asR M with
    | some l => (match boolsW l with | some ns => Q (.bl (f ns)) M | none => False)
    | none => False)
  | _ => False
theorem fit_aa {f : List Bool → Bool} : FitsC B (rAA f) (fun vs H Q => ∃ (a : Addr) (bs : List Bool), vs = [V.ref a] ∧ SqL B.K H a (bs.map V.bl) ∧ Q (.bl (f bs)) H) := by
  intro ws vs H M Q' Q n r h c
  unfold rAA at h
  split at h
  · rename_i w
    obtain ⟨v, rfl, r1⟩ := r.one
    cases e : w.asR M with
    | none => rw [e] at h; exact h.elim
    | some l =>
      rw [e] at h
      dsimp only at h
      cases e2 : boolsW l with
      | none => rw [e2] at h; exact h.elim
      | some ns =>
        rw [e2] at h
        obtain ⟨a, vs, rfl, h1, h2⟩ := asR_of n.sim e r1
        exact ⟨a, ns, rfl, by rw [← boolsW_of h2 e2]; exact h1, c _ M _ H n Fr2.refl rw_bl h⟩
  · exact h.elim
theorem e_all (hK : X.K = B.K) (hc : X.calm = true) (hg : Gl X "all") (hm : X.mg "all" = none) (ha : EA X B (e :: es) t) (hs : starEach (e :: es) X.env = (false, eval e X.env) :: starEach es X.env := by rfl) (hplain : (backTo pos (starEach es X.env)).any (·.1) = false := by rfl) :
    EE X B (.Call (.Name "all" p) (e :: es) [] pos) (wCB (rAA fun bs => bs.all id) t) := e_callB (r0 := rAll B.K) fit_aa (by rw [← hK]; exact cr_all hc) hg hm (by decide +kernel) ha (hs := hs) (hplain := hplain)
theorem e_any (hK : X.K = B.K) (hc : X.calm = true) (hg : Gl X "any") (hm : X.mg "any" = none) (ha : EA X B (e :: es) t) (hs : starEach (e :: es) X.env = (false, eval e X.env) :: starEach es X.env := by rfl) (hplain : (backTo pos (starEach es X.env)).any (·.1) = false := by rfl) :
    EE X B (.Call (.Name "any" p) (e :: es) [] pos) (wCB (rAA fun bs => bs.any id) t) := e_callB (r0 := rAny B.K) fit_aa (by rw [← hK]; exact cr_any hc) hg hm (by decide +kernel) ha (hs := hs) (hplain := hplain)
/-- list(x): a new one, that may change; tuple(x) -/
def rListW : WCall := fun ws M Q => match ws with
  | [w] => (match w.asS M with
    | some l => ∀ p, M p = none → Q (.ref p) (M.upd p (.lst l))
    | none => False)
  | _ => False
theorem fit_list : FitsC B rListW (fun xs H Q => ∃ p ys, xs = [.ref p] ∧ (SqL B.K H p ys ∨ SqT B.K H p ys) ∧ ∀ l, H l = none → Q (.ref l) (upd H l (.lst ys))) := by
  intro ws vs H M Q' Q n r h c
  unfold rListW at h
  split at h
  · rename_i w
    obtain ⟨v, rfl, r1⟩ := r.one
    cases e : w.asS M with
    | none => rw [e] at h; exact h.elim
    | some l =>
      rw [e] at h
      obtain ⟨a, vs, rfl, h1, h2⟩ := asS_of n.sim e r1
      exact ⟨a, vs, rfl, h1, fun q hq => c _ _ _ _ (n.allocL hq h2) (Fr2.alloc hq) rw_ref (h q (n.sim.no hq))⟩
  · exact h.elim
theorem e_list (hK : X.K = B.K) (hg : Gl X "list") (hm : X.mg "list" = none) (ha : EA X B (e :: es) t) (hs : starEach (e :: es) X.env = (false, eval e X.env) :: starEach es X.env := by rfl) (hplain : (backTo pos (starEach es X.env)).any (·.1) = false := by rfl) :
    EE X B (.Call (.Name "list" p) (e :: es) [] pos) (wCB rListW t) := e_callTy (r0 := fun xs H Q => ∃ p ys, xs = [.ref p] ∧ (SqL B.K H p ys ∨ SqT B.K H p ys) ∧ ∀ l, H l = none → Q (.ref l) (upd H l (.lst ys))) fit_list (by rw [← hK]; exact call_list_of) hg hm (by decide +kernel) ha (hs := hs) (hplain := hplain)
def rTupleW : WCall := fun ws M Q => match ws with
  | [w] => (match w.asS M with
    | some l => Q (.tup l) M
    | none => False)
  | _ => False
theorem fit_tuple : FitsC B rTupleW (fun xs H Q => ∃ p ys, xs = [.ref p] ∧ ((SqL B.K H p ys ∧ ∀ l, H l = none → Q (.ref l) (upd H l (.tup ys))) ∨ (SqT B.K H p ys ∧ Q (.ref p) H))) := by
  intro ws vs H M Q' Q n r h c
  unfold rTupleW at h
  split at h
  · rename_i w
    obtain ⟨v, rfl, r1⟩ := r.one
    have lists : ∀ {l : List W}, w.asR M = some l → Q' (.tup l) M → ∃ p ys, [v] = [.ref p] ∧ ((SqL B.K H p ys ∧ ∀ l, H l = none → Q (.ref l) (upd H l (.tup ys))) ∨ (SqT B.K H p ys ∧ Q (.ref p) H)) := by
      intro l e q
      obtain ⟨a, vs, rfl, h1, h2⟩ := asR_of n.sim e r1
      exact ⟨a, vs, rfl, .inl ⟨h1, fun q' hq => c _ M _ _ (n.fresh hq) (Fr2.fresh hq) (rw_tup n.sim hq h2) q⟩⟩
    cases w with
    | tup l =>
      obtain ⟨a, vs, rfl, h1, h2⟩ := tup_of r1
      exact ⟨a, vs, rfl, .inr ⟨h1, c _ M _ H n Fr2.refl r1 h⟩⟩
    | lst l => exact lists rfl h
    | rol l => exact lists rfl h
    | ref p =>
      cases e : W.asS M (.ref p) with
      | none => rw [e] at h; exact h.elim
      | some l => rw [e] at h; exact lists e h
    | _ => exact h.elim
  · exact h.elim
theorem e_tuple (hK : X.K = B.K) (hg : Gl X "tuple") (hm : X.mg "tuple" = none) (ha : EA X B (e :: es) t) (hs : starEach (e :: es) X.env = (false, eval e X.env) :: starEach es X.env := by rfl) (hplain : (backTo pos (starEach es X.env)).any (·.1) = false := by rfl) :
    EE X B (.Call (.Name "tuple" p) (e :: es) [] pos) (wCB rTupleW t) := e_callTy (r0 := fun xs H Q => ∃ p ys, xs = [.ref p] ∧ ((SqL B.K H p ys ∧ ∀ l, H l = none → Q (.ref l) (upd H l (.tup ys))) ∨ (SqT B.K H p ys ∧ Q (.ref p) H))) fit_tuple (by rw [← hK]; exact call_tuple_of) hg hm (by decide +kernel) ha (hs := hs) (hplain := hplain)

/-! ### types as values, isinstance -/
theorem e_ty {x : Str} {T : String} {pos : Pos} (hg : Gl X x) (hm : X.mg x = none) (hv : bootBuiltins x = some (.type T)) (hn : x ≠ "__name__" := by decide) (hd : (x == ("__debug__" : Str)) = false := by decide) : EE X B (.Name x pos) (wC (.ty T)) :=
  ew_c (pe_bltn (v := .ty T) hg hm hv rfl hn hd) fun _ _ => by unfold RW; rfl
/-- a module's tuple -/
theorem e_globt {x : Str} {a : Addr} {ws : List W} {vs : List V} {pos : Pos} (hg : Gl X x) (hm : X.mg x = some (.ref a)) (kt : KT B.K a vs) (r : ∀ H M, RWs B.K H M ws vs) (hd : (x == ("__debug__" : Str)) = false := by decide) : EE X B (.Name x pos) (wC (.tup ws)) :=
  ew_c (pe_glob (v := .ref a) hg hm rfl hd) fun H M => by unfold RW; exact ⟨a, vs, rfl, .inr kt, r H M⟩
def W.tyN (M : Mp) : W → Option String
  | .non => some "NoneType"
  | .bl _ => some "bool"
  | .int _ => some "int"
  | .str _ => some "str"
  | .tup _ => some "tuple"
  | .lst _ => some "list"
  | .rol _ => some "list"
  | .dic _ _ => some "dict"
  | .ref p => match M p with | some (.lst _) => some "list" | some (.dic _ _) => some "dict" | _ => none
  | _ => none
theorem tyN_of {K : PySem.W.Frag} {H : Hp} {M : Mp} {w : W} {v : V} {n : String} (S : Sim K H M) (h : w.tyN M = some n) (r : RW K H M w v) : TyX K H v (.type n) := by
  cases w with
  | non => cases h; unfold RW at r; subst r; exact .base .non
  | bl b => cases h; unfold RW at r; subst r; exact .base (.bl b)
  | int b => cases h; unfold RW at r; subst r; exact .base (.int b)
  | str b => cases h; unfold RW at r; subst r; exact .base (.str b)
  | tup l =>
    cases h
    unfold RW at r
    obtain ⟨a, vs, rfl, h1, _⟩ := r
    rcases h1 with ⟨(h1 | ⟨o, h1⟩), _⟩ | ⟨o, its, n, h1, h2, _⟩
    · exact .base (.tup h1)
    · exact .fTuple h1
    · exact .kTuple h1 h2
  | lst l =>
    cases h
    unfold RW at r
    obtain ⟨a, vs, rfl, ⟨h1, _⟩, _⟩ := r
    exact .base (.lst h1)
  | rol l =>
    cases h
    unfold RW at r
    obtain ⟨a, vs, rfl, h1, _⟩ := r
    rcases h1 with ⟨(h1 | ⟨o, h1⟩), _⟩ | ⟨o, its, n, h1, h2, _⟩
    · exact .base (.lst h1)
    · exact .base (.frz h1)
    · exact .kList h1 h2
  | dic ks l =>
    cases h
    unfold RW at r
    obtain ⟨a, vs, rfl, ⟨h1, _⟩, _⟩ := r
    exact .base (.dK h1)
  | ref p =>
    unfold RW at r
    subst r
    cases e : M p with
    | none => simp only [W.tyN, e] at h; cases h
    | some o =>
      cases o with
      | lst l =>
        simp only [W.tyN, e] at h
        cases h
        obtain ⟨vs, h1, _⟩ := S p _ e
        exact .base (.lst h1)
      | dic ks l =>
        simp only [W.tyN, e] at h
        cases h
        obtain ⟨vs, h1, _⟩ := S p _ e
        exact .base (.dK h1)
      | _ => simp only [W.tyN, e] at h; cases h
  | _ => cases h
def rIsiW : WCall := fun ws M Q => match ws with
  | [x, .ty c] => (match x.tyN M with | some n => (match kitB n c with | some b => Q (.bl b) M | none => False) | none => False)
  | _ => False
theorem fit_isi : FitsC B rIsiW (rIsi B.K) := by
  intro ws vs H M Q' Q n r h c
  unfold rIsiW at h
  split at h
  · rename_i x cn
    obtain ⟨v, u, rfl, r1, r2⟩ := r.two
    unfold RW at r2
    subst r2
    cases e : x.tyN M with
    | none => rw [e] at h; exact h.elim
    | some nm =>
      rw [e] at h
      dsimp only at h
      cases e2 : kitB nm cn with
      | none => rw [e2] at h; exact h.elim
      | some b =>
        rw [e2] at h
        exact ⟨v, _, _, _, b, rfl, .ty cn, tyN_of n.sim e r1, kit_ty e2, c _ M _ H n Fr2.refl rw_bl h⟩
  · exact h.elim
theorem e_isinst (hK : X.K = B.K) (hg : Gl X "isinstance") (hm : X.mg "isinstance" = none) (ha : EA X B (e :: es) t) (hs : starEach (e :: es) X.env = (false, eval e X.env) :: starEach es X.env := by rfl) (hplain : (backTo pos (starEach es X.env)).any (·.1) = false := by rfl) :
    EE X B (.Call (.Name "isinstance" p) (e :: es) [] pos) (wCB rIsiW t) := e_callB (r0 := rIsi B.K) fit_isi (by rw [← hK]; exact call_isi) hg hm (by decide +kernel) ha (hs := hs) (hplain := hplain)

/-! ### methods of lists that may change -/
abbrev WM := W → List W → Mp → WK → Prop
def FitsM (B : BB) (r : WM) (r0 : V → List V → Hp → VK → Prop) : Prop := ∀ (x : W) (ws : List W) (v : V) (vs : List V) (H : Hp) (M : Mp) (Q' : WK) (Q : VK), Now B H M → RW B.K H M x v → RWs B.K H M ws vs → r x ws M Q' →
  (∀ w M' v' H', Now B H' M' → Fr2 H M H' M' → RW B.K H' M' w v' → Q' w M' → Q v' H') → r0 v vs H Q
/-- the receiver is a list of M -/
def isL (x : W) (M : Mp) : Prop := ∃ p l, x = .ref p ∧ M p = some (.lst l)
def wBM (r : WM) (to : WE) (t : WA) : WE := fun τ M Q => to τ M fun x M1 => isL x M1 ∧ t τ M1 fun ws M2 => r x ws M2 Q
theorem tyV_list {x : W} {v : V} {H : Hp} {M : Mp} (S : Sim B.K H M) (r : RW B.K H M x v) (h : isL x M) : tyV B.K "list" v H := by
  obtain ⟨p, l, rfl, e⟩ := h
  unfold RW at r
  subst r
  obtain ⟨vs, h1, _⟩ := S p _ e
  exact .inl ⟨rfl, vs, SqL.of h1⟩
variable {o : Expr} {to : WE} {name : Str} {apos cpos : Pos} {id : String}
theorem e_bm {r : WM} {r0 : V → List V → Hp → VK → Prop} (hK : X.K = B.K) (f : FitsM B r r0) (slot : Slot "list" name id) (hty : typeOf (.builtin id) = pure (.type "method_descriptor")) (hm : MtR X id r0) (ho : EE X B o to) (ha : EA X B (e :: es) t)
    (hbase : attributeBase o name X.env (eval o X.env) = eval o X.env := by rfl)
    (hfew : ((backTo cpos (starEach (e :: es) X.env)).all (fun x => !x.1) && (backToKw cpos (keywordEach [] X.env)).all (fun x => x.1.isSome)
      && decide ((e :: es).length + ([] : List Keyword).length + (if ([] : List Keyword).isEmpty then 0 else 1) < 30)) = true := by rfl)
    (hline : (apos.endLine == cpos.line) = true := by rfl) (hs : starEach (e :: es) X.env = (false, eval e X.env) :: starEach es X.env := by rfl) (hplain : (backTo cpos (starEach es X.env)).any (·.1) = false := by rfl) :
    EE X B (.Call (.Attribute o name apos) (e :: es) [] cpos) (wBM r to t) := PE.imp (pe_bm PySem.F.plainAttrs_list slot hty hm ho ha hbase hfew hline hs hplain) fun σ H Q h => by
  obtain ⟨τ, M, Q', n, rs, h, c⟩ := h
  refine ⟨τ, M, _, n, rs, h, fun x M1 v H1 n1 f1 r1 ⟨hl, h1⟩ => ⟨by rw [hK]; exact tyV_list n1.sim r1 hl, τ, M1, _, n1, rs.mono f1, h1, fun ws M2 vs H2 n2 f2 r2 h2 => ?_⟩⟩
  exact f x ws v vs H2 M2 Q' Q n2 (r1.mono f2) r2 h2 fun w M' v' H' n' f' r' q => c w M' v' H' n' ((f1.trans f2).trans f') r' q
def wBM0 (r : WM) (to : WE) : WE := fun τ M Q => to τ M fun x M1 => isL x M1 ∧ r x [] M1 Q
theorem e_bm0 {r : WM} {r0 : V → List V → Hp → VK → Prop} (hK : X.K = B.K) (f : FitsM B r r0) (slot : Slot "list" name id) (hty : typeOf (.builtin id) = pure (.type "method_descriptor")) (hm : MtR X id r0) (ho : EE X B o to)
    (hbase : attributeBase o name X.env (eval o X.env) = eval o X.env := by rfl) (hline : (apos.endLine == cpos.line) = true := by rfl) :
    EE X B (.Call (.Attribute o name apos) [] [] cpos) (wBM0 r to) := PE.imp (pe_bm0 PySem.F.plainAttrs_list slot hty hm ho hbase hline) fun σ H Q h => by
  obtain ⟨τ, M, Q', n, rs, h, c⟩ := h
  refine ⟨τ, M, _, n, rs, h, fun x M1 v H1 n1 f1 r1 ⟨hl, h1⟩ => ⟨by rw [hK]; exact tyV_list n1.sim r1 hl, ?_⟩⟩
  exact f x [] v [] H1 M1 Q' Q n1 r1 RWs.nil h1 fun w M' v' H' n' f' r' q => c w M' v' H' n' (f1.trans f') r' q
theorem Now.setL {H : Hp} {M : Mp} {p : Addr} {m : MO} {ws : List W} {vs : List V} (n : Now B H M) (h : M p = some m) (r : RWs B.K H M ws vs) : Now B (upd H p (.lst vs)) (M.upd p (.lst ws)) :=
  n.to (n.sim.write h ⟨vs, upd_same, r.mono (Fr2.write h)⟩) (Fr2.write h)
/-- x.append(y) -/
def rAppW : WM := fun x ws M Q => match x, ws with
  | .ref p, [y] => (match M p with
    | some (.lst l) => l.length < sizeLine ∧ Q .non (M.upd p (.lst (l ++ [y])))
    | _ => False)
  | _, _ => False
theorem fit_app : FitsM B rAppW rAppend := by
  intro x ws v vs H M Q' Q n rx r h c
  unfold rAppW at h
  split at h
  · rename_i p y
    cases e : M p with
    | none => rw [e] at h; exact h.elim
    | some o =>
      rw [e] at h
      cases o with
      | lst l =>
        obtain ⟨u, rfl, ru⟩ := r.one
        unfold RW at rx
        obtain ⟨us, h1, h2⟩ := n.sim p _ e
        exact ⟨p, us, u, rx, rfl, h1, by rw [← h2.length]; exact h.1, c _ _ _ _ (n.setL e (h2.append (RWs.cons ru RWs.nil))) (Fr2.write e) rw_non h.2⟩
      | _ => exact h.elim
  · exact h.elim
theorem e_append (hK : X.K = B.K) (ho : EE X B o to) (ha : EA X B (e :: es) t) (hbase : attributeBase o "append" X.env (eval o X.env) = eval o X.env := by rfl)
    (hfew : ((backTo cpos (starEach (e :: es) X.env)).all (fun x => !x.1) && (backToKw cpos (keywordEach [] X.env)).all (fun x => x.1.isSome)
      && decide ((e :: es).length + ([] : List Keyword).length + (if ([] : List Keyword).isEmpty then 0 else 1) < 30)) = true := by rfl)
    (hline : (apos.endLine == cpos.line) = true := by rfl) (hs : starEach (e :: es) X.env = (false, eval e X.env) :: starEach es X.env := by rfl) (hplain : (backTo cpos (starEach es X.env)).any (·.1) = false := by rfl) :
    EE X B (.Call (.Attribute o "append" apos) (e :: es) [] cpos) (wBM rAppW to t) := e_bm hK fit_app PySem.F.slot_list_append PySem.F.type_list_append mt_append ho ha hbase hfew hline hs hplain
/-- x.extend(y), y a list -/
def rExtW : WM := fun x ws M Q => match x, ws with
  | .ref p, [y] => (match M p, y.asL M with
    | some (.lst l), some l' => l.length + l'.length ≤ sizeLine ∧ Q .non (M.upd p (.lst (l ++ l')))
    | _, _ => False)
  | _, _ => False
theorem fit_ext : FitsM B rExtW rExtend := by
  intro x ws v vs H M Q' Q n rx r h c
  unfold rExtW at h
  split at h
  · rename_i p y
    cases e : M p with
    | none => rw [e] at h; exact h.elim
    | some o =>
      rw [e] at h
      cases o with
      | lst l =>
        try dsimp only at h
        cases e2 : y.asL M with
        | none => rw [e2] at h; exact h.elim
        | some l' =>
          rw [e2] at h
          obtain ⟨u, rfl, ru⟩ := r.one
          unfold RW at rx
          obtain ⟨us, h1, h2⟩ := n.sim p _ e
          obtain ⟨q, ys, rfl, g1, g2⟩ := asL_of n.sim e2 ru
          exact ⟨p, q, us, ys, rx, rfl, h1, g1, by rw [← h2.length, ← g2.length]; exact h.1, c _ _ _ _ (n.setL e (h2.append g2)) (Fr2.write e) rw_non h.2⟩
      | _ => exact h.elim
  · exact h.elim
theorem e_extend (hK : X.K = B.K) (ho : EE X B o to) (ha : EA X B (e :: es) t) (hbase : attributeBase o "extend" X.env (eval o X.env) = eval o X.env := by rfl)
    (hfew : ((backTo cpos (starEach (e :: es) X.env)).all (fun x => !x.1) && (backToKw cpos (keywordEach [] X.env)).all (fun x => x.1.isSome)
      && decide ((e :: es).length + ([] : List Keyword).length + (if ([] : List Keyword).isEmpty then 0 else 1) < 30)) = true := by rfl)
    (hline : (apos.endLine == cpos.line) = true := by rfl) (hs : starEach (e :: es) X.env = (false, eval e X.env) :: starEach es X.env := by rfl) (hplain : (backTo cpos (starEach es X.env)).any (·.1) = false := by rfl) :
    EE X B (.Call (.Attribute o "extend" apos) (e :: es) [] cpos) (wBM rExtW to t) := e_bm hK fit_ext PySem.F.slot_list_extend PySem.F.type_list_extend mt_extend ho ha hbase hfew hline hs hplain
/-- x.pop() -/
def rPopW : WM := fun x ws M Q => match x, ws with
  | .ref p, [] => (match M p with
    | some (.lst l) => (match l[l.length - 1]? with | some y => Q y (M.upd p (.lst l.dropLast)) | none => False)
    | _ => False)
  | _, _ => False
theorem RWs.dropLast {K : PySem.W.Frag} {H : Hp} {M : Mp} {ws : List W} {vs : List V} (r : RWs K H M ws vs) : RWs K H M ws.dropLast vs.dropLast := by
  rw [List.dropLast_eq_take, List.dropLast_eq_take, r.length]
  exact r.take _
theorem fit_pop : FitsM B rPopW rPop := by
  intro x ws v vs H M Q' Q n rx r h c
  unfold rPopW at h
  split at h
  · rename_i p
    cases e : M p with
    | none => rw [e] at h; exact h.elim
    | some o =>
      rw [e] at h
      cases o with
      | lst l =>
        dsimp only at h
        cases e2 : l[l.length - 1]? with
        | none => rw [e2] at h; exact h.elim
        | some y =>
          rw [e2] at h
          unfold RWs at r
          unfold RW at rx
          obtain ⟨us, h1, h2⟩ := n.sim p _ e
          obtain ⟨u, e3, r3⟩ := h2.get e2
          rw [h2.length] at e3
          exact ⟨p, us, u, rx, r, h1, e3, c _ _ _ _ (n.setL e h2.dropLast) (Fr2.write e) (r3.mono (Fr2.write e)) h⟩
      | _ => exact h.elim
  · exact h.elim
theorem e_pop (hK : X.K = B.K) (ho : EE X B o to) (hbase : attributeBase o "pop" X.env (eval o X.env) = eval o X.env := by rfl) (hline : (apos.endLine == cpos.line) = true := by rfl) : EE X B (.Call (.Attribute o "pop" apos) [] [] cpos) (wBM0 rPopW to) :=
  e_bm0 hK fit_pop PySem.F.slot_list_pop PySem.F.type_list_pop mt_pop ho hbase hline
/-- x.clear() -/
def rClearW : WM := fun x ws M Q => match x, ws with
  | .ref p, [] => (match M p with
    | some (.lst _) => Q .non (M.upd p (.lst []))
    | _ => False)
  | _, _ => False
theorem fit_clear : FitsM B rClearW rClear := by
  intro x ws v vs H M Q' Q n rx r h c
  unfold rClearW at h
  split at h
  · rename_i p
    cases e : M p with
    | none => rw [e] at h; exact h.elim
    | some o =>
      rw [e] at h
      cases o with
      | lst l =>
        unfold RWs at r
        unfold RW at rx
        obtain ⟨us, h1, h2⟩ := n.sim p _ e
        exact ⟨p, us, rx, r, h1, c _ _ _ _ (n.setL e RWs.nil) (Fr2.write e) rw_non h⟩
      | _ => exact h.elim
  · exact h.elim
theorem e_clear (hK : X.K = B.K) (ho : EE X B o to) (hbase : attributeBase o "clear" X.env (eval o X.env) = eval o X.env := by rfl) (hline : (apos.endLine == cpos.line) = true := by rfl) : EE X B (.Call (.Attribute o "clear" apos) [] [] cpos) (wBM0 rClearW to) :=
  e_bm0 hK fit_clear PySem.F.slot_list_clear PySem.F.type_list_clear mt_clear ho hbase hline
/-- x[i] = v, x a list -/
def gSubL (to ti : WE) : WG := fun v τ M Q => to τ M fun x M1 => ti τ M1 fun i M2 => match x, i with
  | .ref p, .int k => (match M2 p with
    | some (.lst l) => (match ixN l.length k with | some j => Q τ (M2.upd p (.lst (l.set j v))) | none => False)
    | _ => False)
  | _, _ => False
theorem g_subL {o i : Expr} {to ti : WE} (ho : EE X B o to) (hi : EE X B i ti)
    (ha : ∀ v, assign (.Subscript o i pos) X.env v = (do
      let ov ← holding [v] (eval o X.env)
      let iv ← holding [v, ov] (eval i X.env)
      standAt pos
      holding [v, ov, iv] (setItem ov iv v)
      release [v, ov, iv] []) := by intro _; rfl) : EG X B (.Subscript o i pos) (gSubL to ti) := PG.imp (pg_sub ho hi set_list ha) fun v σ H Q h => by
  obtain ⟨w, τ, M, q, n, rs, r, h, c⟩ := h
  refine ⟨τ, M, _, n, rs, h, fun x M1 vx H1 n1 f1 r1 h1 => ?_⟩
  refine ⟨τ, M1, _, n1, rs.mono f1, h1, fun y M2 vy H2 n2 f2 r2 h2 => ?_⟩
  split at h2
  · rename_i p k
    cases e : M2 p with
    | none => rw [e] at h2; exact h2.elim
    | some o =>
      rw [e] at h2
      cases o with
      | lst l =>
        dsimp only at h2
        cases e2 : ixN l.length k with
        | none => rw [e2] at h2; exact h2.elim
        | some j =>
          rw [e2] at h2
          have rx := r1.mono f2
          unfold RW at rx r2
          obtain ⟨us, g1, g2⟩ := n2.sim p _ e
          have rv := (r.mono f1).mono f2
          refine ⟨p, us, k, j, rx, r2, g1, by rw [← g2.length]; exact e2, ?_⟩
          exact c τ _ σ _ (n2.setL e (g2.set j rv)) ((f1.trans f2).trans (Fr2.write e)) (((rs.mono f1).mono f2).mono (Fr2.write e)) h2
      | _ => exact h2.elim
  · exact h2.elim
end
end L3

/-! L3Call: promises of defs over trees, calls, instances, the law's end. -/
namespace L3
open PySem PySem.Spec L2

/-- exceptions: the class, the fields of its own dict by names and values -/
abbrev XW := Value → List Str → List W → Mp → Prop
abbrev X0 : XW := fun _ _ _ _ => False
def XD (K : PySem.W.Frag) (H : Hp) (M : Mp) (d : Option Addr) (ns : List Str) (ws : List W) : Prop := match d with
  | none => ns = [] ∧ ws = []
  | some a => ∃ fs, H a = some (.xd fs) ∧ fs.map (·.1) = ns ∧ RWs K H M ws (fs.map (·.2))
def XPass (B : BB) (E' : XW) (E : XK) : Prop := ∀ cls d ns ws H' M', Now B H' M' → XD B.K H' M' d ns ws → E' cls ns ws M' → E cls d H'
theorem xpass0 {B : BB} {E : XK} : XPass B X0 E := fun _ _ _ _ _ _ _ _ h => h.elim
abbrev WSp := List W → Mp → WK → XW → Prop
def LSp (K : PySem.W.Frag) (sp : WSp) : Sp := fun vs H Q E => ∃ ws M Q' E', Sim K H M ∧ RWs K H M ws vs ∧ sp ws M Q' E' ∧ (∀ w M' v H', Now ⟨K, H, M⟩ H' M' → RW K H' M' w v → Q' w M' → Q v H') ∧ XPass ⟨K, H, M⟩ E' E

section
variable {P : Program} {w : World} {K : PySem.W.Frag} {mg : Str → Option Value} {base : Heap}
def startW (N : List Str) (ws : List W) : SW := ws.map some ++ List.replicate (N.length - ws.length) none
theorem rst_start {H : Hp} {M : Mp} {N : List Str} {ws : List W} {vs : List V} (r : RWs K H M ws vs) : RSt K H M (startW N ws) (L2.start N vs) := by
  refine ⟨by simp [startW, L2.start, r.length], fun i w e => ?_⟩
  unfold startW at e
  by_cases hi : i < ws.length
  · rw [List.getElem?_append_left (by simpa using hi), List.getElem?_map] at e
    cases e1 : ws[i]? with
    | none => rw [e1] at e; cases e
    | some w' =>
      rw [e1] at e
      cases e
      obtain ⟨v, g1, g2⟩ := r.get e1
      refine ⟨v, ?_, g2⟩
      unfold L2.start
      rw [List.getElem?_append_left (by simpa [← r.length] using hi), List.getElem?_map, g1]
      rfl
  · rw [List.getElem?_append_right (by simpa using Nat.le_of_not_lt hi), List.getElem?_replicate] at e
    split at e <;> cases e
/-- THE RULE for a def that lets nothing out -/
theorem fun_ok {x qual : Str} {st : Stmt} {f : Addr} {fd : FuncData} {N ps : List Str} {k : Nat} {sp : WSp} (F : Fun K x qual st f fd) (S : FnScope N ps (defScope st)) (len : ∀ ws M Q E, sp ws M Q E → ws.length = ps.length)
    (hbody : ∀ (cdv : Value) (A : Around) (outer : List Env) (s : Shared) (H : Hp) (E : XK) (B : BB) (ws : List W) (M : Mp) (Q : WK) (E' : XW), B.K = K → Room k (A.deeper (PyProof.Rows.envOfC qual (defScope st) s.heap.objs.size f cdv)) → sp ws M Q E' →
      ∃ t, ESs (cxOf CX0 P w K mg base N qual (defScope st) f cdv A outer s H E).nox B (defBody st) t ∧ t { nx := fun _ M' => Q .non M', rt := Q } (startW N ws) M) : FnOk P w K mg base CX0 (k + 1) f fd ps (LSp K sp) := by
  refine F.ok S (fun vs H Q E h => ?_) (fun cdv A outer s H vs Q E hr h => ?_)
  · obtain ⟨ws, M, Q', E', _, r, h, _⟩ := h
    rw [← r.length]
    exact len ws M Q' E' h
  · obtain ⟨ws, M, Q', E', sim, r, h, cq, _⟩ := h
    obtain ⟨t, ht, hq⟩ := hbody cdv A outer s H E ⟨K, H, M⟩ ws M Q' E' rfl hr h
    exact ⟨_, ht, startW N ws, M, _, ⟨sim, Fr2.refl⟩, rst_start r, hq, ⟨fun τ' M' σ' H' n' f' r' q => cq .non M' .non H' n' rw_non q, fun _ _ _ _ _ _ _ q => q, fun _ _ _ _ _ _ _ q => q, fun w M' v H' n' f' r' q => cq w M' v H' n' r' q⟩⟩
/-- .. that may raise -/
theorem fun_okX {x qual : Str} {st : Stmt} {f : Addr} {fd : FuncData} {N ps : List Str} {k : Nat} {sp : WSp} (F : Fun K x qual st f fd) (S : FnScope N ps (defScope st)) (len : ∀ ws M Q E, sp ws M Q E → ws.length = ps.length)
    (hbody : ∀ (cdv : Value) (A : Around) (outer : List Env) (s : Shared) (H : Hp) (E : XK) (B : BB) (ws : List W) (M : Mp) (Q : WK) (E' : XW), B.K = K → XPass B E' E → Room k (A.deeper (PyProof.Rows.envOfC qual (defScope st) s.heap.objs.size f cdv)) → sp ws M Q E' →
      ∃ t, ESs (cxOf (L2.CX P w) P w K mg base N qual (defScope st) f cdv A outer s H E) B (defBody st) t ∧ t { nx := fun _ M' => Q .non M', rt := Q } (startW N ws) M) : FnOk P w K mg base (L2.CX P w) (k + 1) f fd ps (LSp K sp) := by
  refine F.okX S (fun vs H Q E h => ?_) (fun cdv A outer s H vs Q E hr h => ?_)
  · obtain ⟨ws, M, Q', E', _, r, h, _⟩ := h
    rw [← r.length]
    exact len ws M Q' E' h
  · obtain ⟨ws, M, Q', E', sim, r, h, cq, cx⟩ := h
    obtain ⟨t, ht, hq⟩ := hbody cdv A outer s H E ⟨K, H, M⟩ ws M Q' E' rfl cx hr h
    exact ⟨_, ht, startW N ws, M, _, ⟨sim, Fr2.refl⟩, rst_start r, hq, ⟨fun τ' M' σ' H' n' f' r' q => cq .non M' .non H' n' rw_non q, fun _ _ _ _ _ _ _ q => q, fun _ _ _ _ _ _ _ q => q, fun w M' v H' n' f' r' q => cq w M' v H' n' r' q⟩⟩
end

/-! ### calls -/
section
variable {X : Cx} {B : BB} {CX : CXT} {k : Nat} {f C : Addr} {fd : FuncData} {ps : List Str} {sp : WSp} {dvs : List V} {dws : List W} {ds : List Value} {E : XK} {E' : XW} {x m : Str} {p pos apos : Pos} {e o : Expr} {es : List Expr} {ta : WE} {t : WA}
/-- defaults as trees -/
def RDef (dws : List W) (dvs : List V) : Prop := ∀ K H M, RWs K H M dws dvs
theorem rd_nil : RDef [] [] := fun _ _ _ => RWs.nil
theorem rd_cons {w : W} {v : V} (h : ∀ K H M, RW K H M w v) (r : RDef dws dvs) : RDef (w :: dws) (v :: dvs) := fun K H M => RWs.cons (h K H M) (r K H M)
def wCall (sp : WSp) (dws : List W) (E' : XW) (t : WA) : WE := fun τ M Q => t τ M fun ws M1 => sp (ws ++ dws) M1 Q E'
theorem lsp_go {H : Hp} {M : Mp} {ws : List W} {vs : List V} {Q' : WK} {Q : VK} (hK : X.K = B.K) (n : Now B H M) (r : RWs B.K H M ws vs) (h : sp ws M Q' E') (c : ∀ w M' v H', Now B H' M' → Fr2 H M H' M' → RW B.K H' M' w v → Q' w M' → Q v H') (xp : XPass B E' E) :
    LSp X.K sp vs H Q E := by
  rw [hK]
  exact ⟨ws, M, Q', E', n.sim, r, h, fun w M' v H' n' r' q => c w M' v H' (n.to n'.sim n'.fr) n'.fr r' q, fun cls d ns ws' H' M' n' xd q => xp cls d ns ws' H' M' (n.to n'.sim n'.fr) xd q⟩
theorem e_call (hK : X.K = B.K) (F : FnOk X.prog X.w X.K X.mg X.base CX k f fd ps (LSp X.K sp)) (hr : Room k X.A) (hg : Gl X x) (hm : X.mg x = some (.ref f)) (hk : PySem.W.keepIn X.K (.ref f) = true) (hb : Binds X.K fd ps ds) (hd : Vals dvs ds) (hx : Passes CX X E) (xp : XPass B E' E) (dd : RDef dws dvs)
    (ha : EA X B (e :: es) t) (hdb : (x == ("__debug__" : Str)) = false := by decide) (he : starEach (e :: es) X.env = (false, eval e X.env) :: starEach es X.env := by rfl) (hpl : (backTo pos (starEach es X.env)).any (·.1) = false := by rfl) :
    EE X B (.Call (.Name x p) (e :: es) [] pos) (wCall sp dws E' t) := PE.imp (pe_call F hr hg hm hk hb hd hx ha hdb he hpl) fun σ H Q h => by
  obtain ⟨τ, M, Q', n, rs, h, c⟩ := h
  refine ⟨τ, M, _, n, rs, h, fun ws M1 vs H1 n1 f1 r1 h1 => ?_⟩
  exact lsp_go hK n1 (r1.append (dd _ _ _)) h1 (fun w M' v H' n' f' r' q => c w M' v H' n' (f1.trans f') r' q) xp
theorem e_call0 (hK : X.K = B.K) (F : FnOk X.prog X.w X.K X.mg X.base CX k f fd ps (LSp X.K sp)) (hr : Room k X.A) (hg : Gl X x) (hm : X.mg x = some (.ref f)) (hk : PySem.W.keepIn X.K (.ref f) = true) (hb : Binds X.K fd ps ds) (hd : Vals dvs ds) (hx : Passes CX X E) (xp : XPass B E' E) (dd : RDef dws dvs)
    (hdb : (x == ("__debug__" : Str)) = false := by decide) : EE X B (.Call (.Name x p) [] [] pos) (wCall sp dws E' wNil) := PE.imp (pe_call0 F hr hg hm hk hb hd hx hdb) fun σ H Q h => by
  obtain ⟨τ, M, Q', n, rs, h, c⟩ := h
  exact lsp_go (vs := [] ++ dvs) hK n (RWs.append RWs.nil (dd _ _ _)) h (fun w M' v H' n' f' r' q => c w M' v H' n' f' r' q) xp
/-! ### instances -/
def W.asI (M : Mp) : W → Option (Addr × List Str × List W)
  | .ins C ns l => some (C, ns, l)
  | .ref p => match M p with | some (.ins C ns l) => some (C, ns, l) | _ => none
  | _ => none
theorem asI_of {K : PySem.W.Frag} {H : Hp} {M : Mp} {w : W} {v : V} {C : Addr} {ns : List Str} {l : List W} (S : Sim K H M) (h : w.asI M = some (C, ns, l)) (r : RW K H M w v) : ∃ a dx fs, v = .ref a ∧ H a = some (.ins C dx fs) ∧ fs.map (·.1) = ns ∧ RWs K H M l (fs.map (·.2)) := by
  cases w with
  | ins C' ns' l' =>
    unfold W.asI at h
    cases h
    unfold RW at r
    obtain ⟨a, dx, fs, e, ⟨h1, _⟩, h2, h3⟩ := r
    exact ⟨a, dx, fs, e, h1, h2, h3⟩
  | ref p =>
    unfold RW at r
    cases e : M p with
    | none => simp only [W.asI, e] at h; cases h
    | some o =>
      cases o with
      | ins C' ns' l' =>
        simp only [W.asI, e] at h
        cases h
        obtain ⟨dx, fs, h1, h2, h3⟩ := S p _ e
        exact ⟨p, dx, fs, r, h1, h2, h3⟩
      | _ => simp only [W.asI, e] at h; cases h
  | _ => cases h
theorem asI_ref {M : Mp} {q : Addr} {C : Addr} {ns : List Str} {l : List W} (h : M q = some (.ins C ns l)) : W.asI M (.ref q) = some (C, ns, l) := by simp only [W.asI, h]
theorem lookup_none {f : Str} : ∀ {fs : List (Str × V)}, (fs.map (·.1)).contains f = false → fs.lookup f = none
  | [], _ => rfl
  | (g, v) :: r, h => by
    rw [List.map_cons, List.contains_cons, Bool.or_eq_false_iff] at h
    rw [List.lookup_cons, h.1]
    exact lookup_none h.2
theorem lookup_at {f : Str} : ∀ {fs : List (Str × V)} {j : Nat} {v : V}, (fs.map (·.1)).Nodup → (fs.map (·.1))[j]? = some f → (fs.map (·.2))[j]? = some v → fs.lookup f = some v
  | [], _, _, _, h, _ => by simp at h
  | (g, u) :: r, 0, v, hn, h1, h2 => by
    have e1 : g = f := Option.some.inj h1
    have e2 : u = v := Option.some.inj h2
    subst e1 e2
    rw [List.lookup_cons, beq_self_eq_true]
  | (g, u) :: r, j + 1, v, hn, h1, h2 => by
    rw [List.map_cons, List.nodup_cons] at hn
    rw [List.map_cons, List.getElem?_cons_succ] at h1 h2
    have hne : f ≠ g := fun e => hn.1 (by rw [← e]; exact List.mem_of_getElem? h1)
    rw [List.lookup_cons, show (f == g) = false from beq_eq_false_iff_ne.mpr hne]
    exact lookup_at hn.2 h1 h2
/-- o.f: the j-th field -/
def wFld (C : Addr) (NS : List Str) (j : Nat) (ta : WE) : WE := fun τ M Q => ta τ M fun x M1 => ∃ l, x.asI M1 = some (C, NS, l) ∧ (match l[j]? with | some w => Q w M1 | none => False)
theorem e_fld {NS : List Str} (hK : X.K = B.K) (c : Cls X.K C) {fl : Str} (na : NoAttr X.K C fl) (j : Nat) (hn : NS.Nodup) (hj : NS[j]? = some fl) (he : EE X B o ta) (hb : attributeBase o fl X.env (eval o X.env) = eval o X.env := by rfl) : EE X B (.Attribute o fl pos) (wFld C NS j ta) :=
  PE.imp (pe_fld he hb) fun σ H Q h => by
    obtain ⟨τ, M, Q', n, rs, h, cc⟩ := h
    refine ⟨τ, M, _, n, rs, h, fun w M1 v H1 n1 f1 r1 ⟨l, e, h1⟩ => ?_⟩
    obtain ⟨a, dx, fs, rfl, h2, h3, h4⟩ := asI_of n1.sim e r1
    cases e2 : l[j]? with
    | none => rw [e2] at h1; exact h1.elim
    | some w' =>
      rw [e2] at h1
      obtain ⟨v', e3, r3⟩ := h4.get e2
      exact ⟨a, C, dx, fs, v', rfl, h2, c, na, lookup_at (by rw [h3]; exact hn) (by rw [h3]; exact hj) e3, cc w' M1 v' H1 n1 f1 r3 h1⟩
/-- a constant of the class -/
def wCon (C : Addr) (NS : List Str) (w : W) (ta : WE) : WE := fun τ M Q => ta τ M fun x M1 => (∃ l, x.asI M1 = some (C, NS, l)) ∧ Q w M1
theorem e_con {NS : List Str} {fl : Str} {v : V} {u : Value} {w : W} (c : Cls X.K C) (kc : Con X.K C fl v u) (hn : NS.contains fl = false) (rw' : ∀ K H M, RW K H M w v) (he : EE X B o ta) (hb : attributeBase o fl X.env (eval o X.env) = eval o X.env := by rfl) : EE X B (.Attribute o fl pos) (wCon C NS w ta) :=
  PE.imp (pe_con he hb) fun σ H Q h => by
    obtain ⟨τ, M, Q', n, rs, h, cc⟩ := h
    refine ⟨τ, M, _, n, rs, h, fun x M1 v' H1 n1 f1 r1 ⟨⟨l, e⟩, h1⟩ => ?_⟩
    obtain ⟨a, dx, fs, rfl, h2, h3, h4⟩ := asI_of n1.sim e r1
    exact ⟨a, C, dx, fs, v, u, rfl, h2, c, kc, lookup_none (by rw [h3]; exact hn), cc w M1 v H1 n1 f1 (rw' _ _ _) h1⟩
/-- o.m(e, ..) -/
def wMeth (C : Addr) (NS : List Str) (sp : WSp) (dws : List W) (E' : XW) (ta : WE) (t : WA) : WE := fun τ M Q => ta τ M fun x M1 => (∃ l, x.asI M1 = some (C, NS, l)) ∧ t τ M1 fun ws M2 => sp (x :: (ws ++ dws)) M2 Q E'
theorem le_meth {NS : List Str} (hK : X.K = B.K) (xp : XPass B E' E) (dd : RDef dws dvs) (hn : NS.contains m = false) (σ : L2.St) (H : Hp) (Q : VK) (h : LE B (wMeth C NS sp dws E' ta t) σ H Q) : tMeth C m (LSp X.K sp) dvs E (LE B ta) (LA B t) σ H Q := by
  obtain ⟨τ, M, Q', n, rs, h, c⟩ := h
  refine ⟨τ, M, _, n, rs, h, fun x M1 v H1 n1 f1 r1 ⟨⟨l, e⟩, h1⟩ => ?_⟩
  obtain ⟨a, dx, fs, ev, h2, h3, h4⟩ := asI_of n1.sim e r1
  refine ⟨a, dx, fs, ev, h2, lookup_none (by rw [h3]; exact hn), τ, M1, _, n1, rs.mono f1, h1, fun ws M2 vs H2 n2 f2 r2 h5 => ?_⟩
  exact lsp_go hK n2 (RWs.cons (r1.mono f2) (r2.append (dd _ _ _))) h5 (fun w M' v H' n' f' r' q => c w M' v H' n' ((f1.trans f2).trans f') r' q) xp
theorem e_meth {pl : Sem Bool} {NS : List Str} (hK : X.K = B.K) (c : Cls X.K C) (hm : Meth X.K C m f) (F : FnOk X.prog X.w X.K X.mg X.base CX k f fd ps (LSp X.K sp)) (hr : Room k X.A) (hb : Binds X.K fd ps ds) (hd : Vals dvs ds) (hx : Passes CX X E) (xp : XPass B E' E) (dd : RDef dws dvs) (hn : NS.contains m = false)
    (ho : EE X B o ta) (ha : EA X B (e :: es) t) (hst : starEach (e :: es) X.env = (false, eval e X.env) :: starEach es X.env := by rfl) (hpl : (backTo pos (starEach es X.env)).any (·.1) = false := by rfl)
    (ht : eval (.Call (.Attribute o m apos) (e :: es) [] pos) X.env = (do
      let ov ← eval o X.env
      standAt apos.atName
      let (f, first) ← holding [ov] (getMethod ov m pl)
      callWith pos f first (backTo pos (starEach (e :: es) X.env)) (backToKw pos (keywordEach [] X.env))) := by rfl) : EE X B (.Call (.Attribute o m apos) (e :: es) [] pos) (wMeth C NS sp dws E' ta t) :=
  PE.imp (pe_meth ho c hm F hr hb hd hx ha hst hpl ht) (le_meth hK xp dd hn)
theorem e_meth0 {pl : Sem Bool} {NS : List Str} (hK : X.K = B.K) (c : Cls X.K C) (hm : Meth X.K C m f) (F : FnOk X.prog X.w X.K X.mg X.base CX k f fd ps (LSp X.K sp)) (hr : Room k X.A) (hb : Binds X.K fd ps ds) (hd : Vals dvs ds) (hx : Passes CX X E) (xp : XPass B E' E) (dd : RDef dws dvs) (hn : NS.contains m = false)
    (ho : EE X B o ta)
    (ht : eval (.Call (.Attribute o m apos) [] [] pos) X.env = (do
      let ov ← eval o X.env
      standAt apos.atName
      let (f, first) ← holding [ov] (getMethod ov m pl)
      callWith pos f first (backTo pos (starEach [] X.env)) (backToKw pos (keywordEach [] X.env))) := by rfl) : EE X B (.Call (.Attribute o m apos) [] [] pos) (wMeth C NS sp dws E' ta wNil) :=
  PE.imp (pe_meth0 ho c hm F hr hb hd hx ht) fun σ H Q h => by
    obtain ⟨τ, M, Q', n, rs, h, c⟩ := h
    refine ⟨τ, M, _, n, rs, h, fun x M1 v H1 n1 f1 r1 ⟨⟨l, e⟩, h1⟩ => ?_⟩
    obtain ⟨a, dx, fs, ev, h2, h3, h4⟩ := asI_of n1.sim e r1
    refine ⟨a, dx, fs, ev, h2, lookup_none (by rw [h3]; exact hn), ?_⟩
    exact lsp_go (vs := v :: ([] ++ dvs)) hK n1 (RWs.cons r1 (RWs.append RWs.nil (dd _ _ _))) h1 (fun w M' v H' n' f' r' q => c w M' v H' n' (f1.trans f') r' q) xp
/-- C(..): a new instance, that may change -/
def wMake (C : Addr) (sp : WSp) (dws : List W) (E' : XW) (t : WA) : WE := fun τ M Q => t τ M fun ws M1 => ∀ x, M1 x = none → sp (.ref x :: (ws ++ dws)) (M1.upd x (.ins C [] [])) (fun w M2 => w = .non ∧ Q (.ref x) M2) E'
theorem made_at {H : Hp} {M : Mp} {x dx : Addr} (n : Now B H M) (hx : H x = none) (hd : H dx = none) (ne : dx ≠ x) : Now B (upd (upd H dx (.own x)) x (.ins C dx [])) (M.upd x (.ins C [] [])) ∧ Fr2 H M (upd (upd H dx (.own x)) x (.ins C dx [])) (M.upd x (.ins C [] [])) := by
  have n1 := n.fresh (u := .own x) hd
  have hx1 : (upd H dx (.own x)) x = none := by rw [upd_ne (Ne.symm ne)]; exact hx
  exact ⟨n1.to (n1.sim.alloc hx1 ⟨dx, [], upd_same, rfl, RWs.nil⟩) (Fr2.alloc hx1), (Fr2.fresh hd).trans (Fr2.alloc hx1)⟩
theorem le_make (hK : X.K = B.K) (xp : XPass B E' E) (dd : RDef dws dvs) (σ : L2.St) (H : Hp) (Q : VK) (h : LE B (wMake C sp dws E' t) σ H Q) : tMake C (LSp X.K sp) dvs E (LA B t) σ H Q := by
  obtain ⟨τ, M, Q', n, rs, h, c⟩ := h
  refine ⟨τ, M, _, n, rs, h, fun ws M1 vs H1 n1 f1 r1 h1 x dx hx hdx ne => ?_⟩
  obtain ⟨n2, f2⟩ := made_at (C := C) n1 hx hdx ne
  refine lsp_go hK n2 (RWs.cons rw_ref ((r1.append (dd _ _ _)).mono f2)) (h1 x (n1.sim.no hx)) (fun w M' v H' n' f' r' q => ?_) xp
  obtain ⟨e, q⟩ := q
  subst e
  unfold RW at r'
  exact ⟨r', c (.ref x) M' _ H' n' ((f1.trans f2).trans f') rw_ref q⟩
theorem e_make (hK : X.K = B.K) (Mk' : Mk X.K C f) (F : FnOk X.prog X.w X.K X.mg X.base CX k f fd ps (LSp X.K sp)) (hr : Room (k + 1) X.A) (hg : Gl X x) (hm : X.mg x = some (.ref C)) (hb : Binds X.K fd ps ds) (hd : Vals dvs ds) (hx : Passes CX X E) (xp : XPass B E' E) (dd : RDef dws dvs)
    (ha : EA X B (e :: es) t) (hdb : (x == ("__debug__" : Str)) = false := by decide) (he : starEach (e :: es) X.env = (false, eval e X.env) :: starEach es X.env := by rfl) (hpl : (backTo pos (starEach es X.env)).any (·.1) = false := by rfl) :
    EE X B (.Call (.Name x p) (e :: es) [] pos) (wMake C sp dws E' t) := PE.imp (pe_make Mk' F hr hg hm hb hd hx ha hdb he hpl) (le_make hK xp dd)
end

/-! ### the law's end -/
def spLaw : WSp := fun ws _ Q _ => ∃ ns : List Int, ws = [.rol (ns.map W.int)] ∧ ns.length ≤ 63 ∧ ∀ M', Q (.bl true) M'
theorem rws_ints {K : PySem.W.Frag} {H : Hp} {M : Mp} : ∀ ns : List Int, RWs K H M (ns.map W.int) (ns.map V.int)
  | [] => RWs.nil
  | n :: ns => RWs.cons rw_int (rws_ints ns)
theorem law_sp {K : PySem.W.Frag} {H : Hp} {a : Addr} {ns : List Int} (hl : ns.length ≤ 63) (hS : SqL K H a (ns.map V.int)) : LSp K spLaw [.ref a] H (fun v _ => v = .bl true) (fun _ _ _ => False) := by
  refine ⟨[.rol (ns.map W.int)], fun _ => none, fun w _ => w = .bl true, X0, fun a o e => (nomatch e), RWs.cons ?_ RWs.nil, ⟨ns, rfl, hl, fun _ => rfl⟩, fun w M' v H' n' r' q => ?_, xpass0⟩
  · unfold RW
    refine ⟨a, _, rfl, ?_, rws_ints ns⟩
    rcases hS with h | h
    · exact .inl ⟨h, rfl⟩
    · exact .inr h
  · subst q
    unfold RW at r'
    exact r'
theorem walk {k : Nat} {l : PySem.W.OpenLaw} {q : Program} {loose : List Str} {XP : (Str → Option Value) → Heap → Prop} {YP : World → Heap → Prop} {d : DefRec} {K : Params → PySem.W.Frag} (hn : l.most = some 63) (hdf : d.params.defaults = []) (hr : Room k callerA) {x : Str}
    (hY : ∀ (w : World) (h : Heap), YP w h → (K w.params).In h)
    (F : ∀ (w : World) (mg : Str → Option Value) (fa : Addr) (h : Heap), (K w.params).In h → h.Ns mainGlobals mg → mg d.name = some (.ref fa) →
      ∃ fd : FuncData, (∀ (s : Shared) (u : Value), BindsTo s fd ⟨[u], []⟩ [(x, u)]) ∧ ∀ base : Heap, (K w.params).In base → base.Ns mainGlobals mg → FnOk l.prog w (K w.params) mg base CX0 k fa fd [x] (LSp (K w.params) spLaw)) :
    PySem.W.WalkO q loose XP YP l.row.toRowW d [] (fun f vs => PySem.call f vs) :=
  L2.walk_of (n := 63) (k := k) (x := x) (CX := fun _ => CX0) (sp := fun w => LSp (K w.params) spLaw) hn (by decide) hdf hr hY F (fun _ _ a ns hl _ hS => law_sp hl hS) fun _ _ _ _ _ z => z
end L3

local macro_rules | `(tactic| walk_at "w") => `(tactic| conv => whnf)
local macro_rules | `(tactic| walk_at "ln") => `(tactic| ((first | refine L3.le_line ?_ | refine L3.lt_line ?_); (try simp only [List.length_cons, List.length_nil, List.length_append, List.length_map]); omega))
local macro_rules | `(tactic| walk_at "ok") => `(tactic| (refine L3.okD_of ?_ ?_ <;> (first | (simp [L3.W.dr, L3.cutL_1, L3.W.can, L3.W.cans, L3.W.dep, L3.W.deps, *]; done) | (simp [L3.W.dr, L3.cutL_1, L3.W.can, L3.W.cans, L3.W.dep, L3.W.deps, *]; decide +kernel))))
local macro_rules | `(tactic| walk_at "eq") => `(tactic| simp only [L3.W.dr, L3.cutL_1, L3.weq_tup, L3.weq_lst, L3.weq_str, L3.weq_int, L3.weq_bl, L3.eqvAll_nil, L3.eqvAll_cn, L3.eqvAll_nc, L3.eqvAll_cc, Bool.and_true, Bool.true_and, Bool.false_and, Bool.and_false, *])
local macro_rules | `(tactic| walk_at "sd") => `(tactic| first | assumption | omega | exact Or.inr ⟨by omega, by omega⟩ | exact Or.inl ⟨by omega, by omega⟩ | exact ⟨by omega, by omega⟩ | exact ⟨by omega, by omega, by omega⟩ | walk_at "ln" | rfl | walk_at "ok" | decide)
local macro_rules | `(tactic| walk_at "hp") => `(tactic| first | assumption | exact L3.Mp.upd_same | (rw [L3.Mp.upd_ne (by first | assumption | exact Ne.symm (by assumption))]; walk_at "hp"))
local macro_rules | `(tactic| walk_at "m") => `(tactic| first | (rw [L3.asS_ref]; rotate_left 1; walk_at "hp") | (rw [L3.asR_ref]; rotate_left 1; walk_at "hp") | (rw [L3.asL_ref]; rotate_left 1; walk_at "hp"))
local macro_rules | `(tactic| walk_at "a") => `(tactic| (refine And.intro (by walk_at "sd") ?_))
local macro_rules | `(tactic| walk_at "go") => `(tactic| (walk_at "w"; repeat ((first | walk_at "a" | walk_at "m"); walk_at "w")))

namespace Pf
open PySem PySem.Spec L2 L3
inductive Stp where
  | one (a : Str) | two (a b : Str)
def Stp.w : Stp → W
  | .one a => .tup [.str a]
  | .two a b => .tup [.str a, .str b]
def Stp.ok : Stp → Bool
  | .one a => PySem.PyData.strOk a
  | .two a b => PySem.PyData.strOk a && PySem.PyData.strOk b
def confl : Stp → Stp → Bool
  | .two a b, .two c d => (b == d) && (!(a == c) || !(("read" : Str) == a || (("add" : Str) == a || false)))
  | _, _ => false
theorem due_eq (a c : Str) : (!((a == "read") && (c == "read")) && !((a == "add") && (c == "add"))) = (!(a == c) || !(("read" : Str) == a || (("add" : Str) == a || false))) := by
  by_cases h : a = c
  · subst h
    by_cases h1 : a = "read"
    · subst h1
      decide
    · by_cases h2 : a = "add"
      · subst h2
        decide
      · have e1 : (a == "read") = false := beq_eq_false_iff_ne.mpr h1
        have e2 : (a == "add") = false := beq_eq_false_iff_ne.mpr h2
        have e3 : (("read" : Str) == a) = false := beq_eq_false_iff_ne.mpr (Ne.symm h1)
        have e4 : (("add" : Str) == a) = false := beq_eq_false_iff_ne.mpr (Ne.symm h2)
        rw [e1, e2, e3, e4, beq_self_eq_true]
        rfl
  · have e0 : (a == c) = false := beq_eq_false_iff_ne.mpr h
    rw [e0]
    have k : ∀ s : Str, ((a == s) && (c == s)) = false := fun s => by
      by_cases h1 : a = s
      · have h2 : ¬ c = s := fun e => h (h1.trans e.symm)
        rw [beq_eq_false_iff_ne.mpr h2, Bool.and_false]
      · rw [beq_eq_false_iff_ne.mpr h1, Bool.false_and]
    rw [k, k]
    rfl
theorem letter_at : ∀ i : Nat, i < 26 → atI ("abcdefghijklmnopqrstuvwxyz" : Str).cps.toList (i : Int) = some (97 + i) := by decide +kernel
theorem letter_at' {i : Int} (h0 : 0 ≤ i) (h : i < 26) : atI ("abcdefghijklmnopqrstuvwxyz" : Str).cps.toList i = some (97 + i.toNat) := by
  have e : i = (i.toNat : Int) := by omega
  rw [e]
  exact letter_at i.toNat (by omega)
def tailOf (r : Int) : Str := if r = 0 then "" else if r = 1 then "q" else if r = 2 then "abcd" else "abcdefg"
theorem tail_at {r : Int} (h0 : 0 ≤ r) (h1 : r < 4) : atI [W.str "", W.str "q", W.str "abcd", W.str "abcdefg"] r = some (.str (tailOf r)) := by
  have e : r = 0 ∨ r = 1 ∨ r = 2 ∨ r = 3 := by omega
  rcases e with rfl | rfl | rfl | rfl <;> rfl
theorem mem_rangeW {lo : Int} {n : Nat} {x : W} (h : x ∈ rangeW lo n) : ∃ i : Nat, i < n ∧ x = .int (lo + i) := by
  unfold rangeW at h
  obtain ⟨i, hi, e⟩ := List.mem_map.mp h
  exact ⟨i, List.mem_range.mp hi, e.symm⟩
def nameOf (o s : Int) (t : Str) : W → W
  | .int k => .str ((⟨#[97 + ((o + s * k) % 26).toNat]⟩ : Str) ++ t)
  | _ => .non
theorem tail_len (r : Int) : (tailOf r).length ≤ 7 := by
  unfold tailOf
  repeat (split; decide)
  decide
theorem tail_ok (r : Int) : PySem.PyData.strOk (tailOf r) = true := by
  unfold tailOf
  repeat (split; decide +kernel)
  decide +kernel
theorem nm_ok (c : Nat) (t : Str) (h : c < 1000) (ht : PySem.PyData.strOk t = true) : PySem.PyData.strOk ((⟨#[c]⟩ : Str) ++ t) = true := by
  have e : ((⟨#[c]⟩ : Str) ++ t).cps = #[c] ++ t.cps := rfl
  unfold PySem.PyData.strOk at ht ⊢
  rw [e, Array.all_append, ht, Bool.and_true]
  simp
  omega
theorem names_map (o s : Int) (t : Str) (n : Nat) : (rangeW 0 n).map (nameOf o s t) = ((List.range n).map fun (k : Nat) => (⟨#[97 + ((o + s * (0 + (k : Int))) % 26).toNat]⟩ : Str) ++ t).map .str := by
  unfold rangeW
  rw [List.map_map, List.map_map]
  rfl
theorem confl_comm (s t : Stp) : confl t s = confl s t := by
  cases s with
  | one a => cases t <;> rfl
  | two a b =>
    cases t with
    | one c => rfl
    | two c d =>
      show ((d == b) && (!(c == a) || !(("read" : Str) == c || (("add" : Str) == c || false)))) = ((b == d) && (!(a == c) || !(("read" : Str) == a || (("add" : Str) == a || false))))
      have e1 : (d == b) = (b == d) := BEq.comm
      have e2 : (c == a) = (a == c) := BEq.comm
      rw [e1, e2]
      by_cases h : a = c
      · subst h
        rfl
      · have e0 : (a == c) = false := beq_eq_false_iff_ne.mpr h
        rw [e0]
        rfl
end Pf
namespace Pf
open PySem PySem.Spec L2 L3
def topS (i : Nat) : Stmt := PySem.Challenge.pw_unbrokenruns_k21_steps_that_conflict.main.body.getD i (.Pass ⟨0, 0, 0, 0⟩)
abbrev s_conflicts : Stmt := topS 2
theorem sc_conflicts : FnScope ["one", "other"] ["one", "other"] (defScope s_conflicts) := ⟨rfl, rfl, rfl, by decide +kernel, rfl, by decide +kernel, by decide +kernel⟩
abbrev s_law_source : Stmt := topS 4
theorem sc_law_source : FnScope ["_law_script", "_law_k", "_law_cell", "_law_size", "_law_mixed"] ["_law_script", "_law_k"] (defScope s_law_source) := ⟨rfl, rfl, rfl, by decide +kernel, rfl, by decide +kernel, by decide +kernel⟩
abbrev s_law_draw : Stmt := topS 5
theorem sc_law_draw : FnScope ["_law_source_here", "_law_many", "_law_result"] ["_law_source_here", "_law_many"] (defScope s_law_draw) := ⟨rfl, rfl, rfl, by decide +kernel, rfl, by decide +kernel, by decide +kernel⟩
abbrev s_law_due : Stmt := topS 7
theorem sc_law_due : FnScope ["_law_one", "_law_other"] ["_law_one", "_law_other"] (defScope s_law_due) := ⟨rfl, rfl, rfl, by decide +kernel, rfl, by decide +kernel, by decide +kernel⟩
abbrev s_law_names : Stmt := topS 6
theorem sc_law_names : FnScope ["_law_source_here", "_law_count", "_law_signs", "_law_origin", "_law_step", "_law_tail", "_law_k"] ["_law_source_here", "_law_count"] (defScope s_law_names) := ⟨rfl, rfl, rfl, by decide +kernel, rfl, by decide +kernel, by decide +kernel⟩
abbrev s_law : Stmt := topS 8
theorem sc_law : FnScope ["_law_script", "_law_k", "_law_source_here", "_law_names_here", "_law_steps", "_law_word", "_law_one", "_law_other", "_law_told", "_law_name"] ["_law_script"] (defScope s_law) := ⟨rfl, rfl, rfl, by decide +kernel, rfl, by decide +kernel, by decide +kernel⟩
structure Txt (K : PySem.W.Frag) (mg : Str → Option Value) where
  a_conflicts : Addr
  fd_conflicts : FuncData
  F_conflicts : Fun K "conflicts" "conflicts" s_conflicts a_conflicts fd_conflicts
  B_conflicts : Binds K fd_conflicts ["one", "other"] []
  g_conflicts : mg "conflicts" = some (.ref a_conflicts)
  a_law_source : Addr
  fd_law_source : FuncData
  F_law_source : Fun K "_law_source" "_law_source" s_law_source a_law_source fd_law_source
  B_law_source : Binds K fd_law_source ["_law_script", "_law_k"] []
  g_law_source : mg "_law_source" = some (.ref a_law_source)
  a_law_draw : Addr
  fd_law_draw : FuncData
  F_law_draw : Fun K "_law_draw" "_law_draw" s_law_draw a_law_draw fd_law_draw
  B_law_draw : Binds K fd_law_draw ["_law_source_here", "_law_many"] []
  g_law_draw : mg "_law_draw" = some (.ref a_law_draw)
  a_law_due : Addr
  fd_law_due : FuncData
  F_law_due : Fun K "_law_due" "_law_due" s_law_due a_law_due fd_law_due
  B_law_due : Binds K fd_law_due ["_law_one", "_law_other"] []
  g_law_due : mg "_law_due" = some (.ref a_law_due)
  a_law_names : Addr
  fd_law_names : FuncData
  F_law_names : Fun K "_law_names" "_law_names" s_law_names a_law_names fd_law_names
  B_law_names : Binds K fd_law_names ["_law_source_here", "_law_count"] []
  g_law_names : mg "_law_names" = some (.ref a_law_names)
  a_law : Addr
  fd_law : FuncData
  F_law : Fun K "law" "law" s_law a_law fd_law
  B_law : Binds K fd_law ["_law_script"] []
  g_law : mg "law" = some (.ref a_law)
  b_abs : mg "abs" = none
  b_bool : mg "bool" = none
  b_int : mg "int" = none
  b_isinstance : mg "isinstance" = none
  b_len : mg "len" = none
  b_max : mg "max" = none
  b_min : mg "min" = none
  b_range : mg "range" = none
  b_sum : mg "sum" = none
  k_SHARED : Addr
  kg_SHARED : mg "SHARED" = some (.ref k_SHARED)
  kt_SHARED : KT K k_SHARED [.str "read", .str "add"]
section
variable {P : Program} {w : World} {K : PySem.W.Frag} {mg : Str → Option Value} {base : Heap}
theorem Txt.e_SHARED (T : Txt K mg) {X : Cx} {B : BB} {pos : Pos} (hK : K = B.K) (hm : X.mg = mg) (hg : Gl X "SHARED") : EE X B (.Name "SHARED" pos) (wC (.tup [.str "read", .str "add"])) := e_globt hg (by rw [hm]; exact T.kg_SHARED) (by rw [← hK]; exact T.kt_SHARED) (fun H M => (RWs.cons rw_str (RWs.cons rw_str RWs.nil)))
def sp_conflicts : WSp := fun ws M Q _ => ∃ (s t : Stp), ws = [s.w, t.w] ∧ Q (.bl (confl s t)) M
theorem ok_conflicts (T : Txt K mg) : FnOk P w K mg base CX0 1 T.a_conflicts T.fd_conflicts ["one", "other"] (LSp K sp_conflicts) := by
  refine fun_ok (k := 0) T.F_conflicts sc_conflicts (fun ws M Q E h => ?_) (fun cdv A outer s H E B ws M Q E' hBK hr h => ?_)
  · obtain ⟨_, _, rfl, _⟩ := h
    rfl
  · have hK : K = B.K := hBK.symm
    have hu := hr.units
    obtain ⟨s, t, rfl, q⟩ := h
    refine ⟨_, (ss_cons (s_if (PW.pt (w_or (t_eq hK hu (e_len hK rfl T.b_len (a_cons (ev 0) a_nil)) e_int) (w_or (t_eq hK hu (e_len hK rfl T.b_len (a_cons (ev 1) a_nil)) e_int) (w_or1 (t_ne hK hu (e_ix hK (ev 0) e_int) (e_ix hK (ev 1) e_int))))))
        (ss_one (s_ret e_bl))
        ss_nil)
        (ss_one (s_ret (e_or (e_ne hK hu (e_ix hK (ev 0) e_int) (e_ix hK (ev 1) e_int)) (e_one (e_notin hK (e_ix hK (ev 0) e_int) (T.e_SHARED hK rfl rfl))))))), ?_⟩
    cases s with
    | one a =>
      walk_at "go"
      exact q
    | two a b =>
      cases t with
      | one c =>
        walk_at "go"
        exact q
      | two c d =>
        walk_at "go"
        rw [weq_str]
        cases e1 : b == d
        · walk_at "go"
          simp only [confl, e1, Bool.false_and] at q
          exact q
        · walk_at "go"
          rw [weq_str]
          cases e2 : a == c
          · walk_at "go"
            simp only [confl, e1, e2, Bool.true_and, Bool.not_false, Bool.true_or] at q
            exact q
          · walk_at "go"
            simp only [confl, e1, e2, Bool.true_and, Bool.not_true, Bool.false_or, ← weq_str] at q
            exact q
def sp_law_source : WSp := fun ws M Q _ => ∃ (ns : List Int) (k : Nat), ws = [.rol (ns.map W.int), .int k] ∧ k < 64 ∧ ∀ (p : Addr) (b c : Int), M p = none → Q (.ref p) (M.upd p (.lst [.int b, .int c]))
theorem ok_law_source (T : Txt K mg) : FnOk P w K mg base CX0 1 T.a_law_source T.fd_law_source ["_law_script", "_law_k"] (LSp K sp_law_source) := by
  refine fun_ok (k := 0) T.F_law_source sc_law_source (fun ws M Q E h => ?_) (fun cdv A outer s H E B ws M Q E' hBK hr h => ?_)
  · obtain ⟨_, _, rfl, _⟩ := h
    rfl
  · have hK : K = B.K := hBK.symm
    have hu := hr.units
    obtain ⟨ns, k, rfl, hk, q⟩ := h
    refine ⟨_, (ss_cons (s_set (i := 2) sc_law_source.nd rfl (Or.inl rfl) (e_add hK (e_mul e_int (e_sum hK rfl rfl T.b_sum (a_cons (e_slice hK (ev 0) o_none (o_some e_int)) a_nil))) (ev 1)))
        (ss_cons (s_if (t_lt (ev 1) (e_len hK rfl T.b_len (a_cons (ev 0) a_nil)))
        (ss_one (s_set (i := 2) sc_law_source.nd rfl (Or.inl rfl) (e_ix hK (ev 0) (ev 1))))
        ss_nil)
        (ss_cons (s_set (i := 3) sc_law_source.nd rfl (Or.inl rfl) (e_abs rfl T.b_abs (a_cons (ev 2) a_nil)))
        (ss_cons (s_set (i := 4) sc_law_source.nd rfl (Or.inl rfl) (e_add hK (e_add hK (e_add hK (e_mod (e_int1 rfl T.b_int (a_cons (ev 3) a_nil)) e_int) (e_mul (e_mul e_int (ev 1)) (ev 1))) (e_mul e_int (ev 1))) e_int))
        (ss_cons (s_set (i := 4) sc_law_source.nd rfl (Or.inl rfl) (e_mod (e_int1 rfl T.b_int (a_cons (e_mul (ev 4) e_int) a_nil)) e_int))
        (ss_one (s_ret (e_lstM (a_cons (e_mul (ev 3) (e_int1 rfl T.b_int (a_cons (e_ge (ev 3) (e_pow e_int e_int)) a_nil))) (a_cons (e_mod (e_int1 rfl T.b_int (a_cons (e_mul (ev 4) (ev 4)) a_nil)) e_int) a_nil)))))))))), ?_⟩
    walk_at "go"
    rw [cutL_map, intsW_map]
    walk_at "go"
    by_cases h : (k : Int) < ((ns.map W.int).length : Nat)
    · rw [ltT h]
      walk_at "go"
      have hk2 : k < ns.length := by simpa using h
      rw [show atI (ns.map W.int) (k : Int) = some (.int ns[k]) from atI_nat (by rw [List.getElem?_map, List.getElem?_eq_getElem hk2]; rfl)]
      walk_at "go"
      intro p hp
      exact q p _ _ hp
    · rw [ltF h]
      walk_at "go"
      intro p hp
      exact q p _ _ hp
def sp_law_draw : WSp := fun ws M Q _ => ∃ (a : Addr) (b c m : Int) (u : Unit), ws = [.ref a, .int m] ∧ M a = some (.lst [.int b, .int c]) ∧ 0 < m ∧ m < 1073741824 ∧ ∀ r b' c' : Int, 0 ≤ r → r < m → Q (.int r) (M.upd a (.lst [.int b', .int c']))
theorem ok_law_draw (T : Txt K mg) : FnOk P w K mg base CX0 1 T.a_law_draw T.fd_law_draw ["_law_source_here", "_law_many"] (LSp K sp_law_draw) := by
  refine fun_ok (k := 0) T.F_law_draw sc_law_draw (fun ws M Q E h => ?_) (fun cdv A outer s H E B ws M Q E' hBK hr h => ?_)
  · obtain ⟨_, _, _, _, _, rfl, _⟩ := h
    rfl
  · have hK : K = B.K := hBK.symm
    have hu := hr.units
    obtain ⟨a, b, c, m, _, rfl, hM, h0, h1, q⟩ := h
    refine ⟨_, (ss_cons (s_if (t_gt (e_ix hK (ev 0) e_int) e_int)
        (ss_cons (s_set (i := 2) sc_law_draw.nd rfl (Or.inl rfl) (e_mod (e_int1 rfl T.b_int (a_cons (e_ix hK (ev 0) e_int) a_nil)) (ev 1)))
          (ss_cons (s_asg (e_fdiv (e_ix hK (ev 0) e_int) (ev 1)) (g_subL (ev 0) e_int))
          (ss_one (s_ret (ev 2)))))
        ss_nil)
        (ss_cons (s_asg (e_mod (e_int1 rfl T.b_int (a_cons (e_add hK (e_mul (e_ix hK (ev 0) e_int) e_int) e_int) a_nil)) e_int) (g_subL (ev 0) e_int))
        (ss_one (s_ret (e_mod (e_int1 rfl T.b_int (a_cons (e_fdiv (e_mod (e_mul (e_ix hK (ev 0) e_int) (e_ix hK (ev 0) e_int)) e_int) e_int) a_nil)) (ev 1)))))), ?_⟩
    walk_at "go"
    by_cases hb : (0 : Int) < b
    · rw [gtT hb]
      walk_at "go"
      rw [hM]
      walk_at "go"
      exact q _ _ _ (Int.emod_nonneg _ (by omega)) (Int.emod_lt_of_pos _ h0)
    · rw [gtF hb]
      walk_at "go"
      rw [hM]
      walk_at "go"
      exact q _ _ _ (Int.emod_nonneg _ (by omega)) (Int.emod_lt_of_pos _ h0)
def sp_law_due : WSp := fun ws M Q _ => ∃ (s t : Stp), ws = [s.w, t.w] ∧ s.ok = true ∧ t.ok = true ∧ Q (.bl (confl s t)) M
theorem ok_law_due (T : Txt K mg) : FnOk P w K mg base CX0 1 T.a_law_due T.fd_law_due ["_law_one", "_law_other"] (LSp K sp_law_due) := by
  refine fun_ok (k := 0) T.F_law_due sc_law_due (fun ws M Q E h => ?_) (fun cdv A outer s H E B ws M Q E' hBK hr h => ?_)
  · obtain ⟨_, _, rfl, _⟩ := h
    rfl
  · have hK : K = B.K := hBK.symm
    have hu := hr.units
    obtain ⟨s, t, rfl, h1, h2, q⟩ := h
    refine ⟨_, (ss_cons (s_if (PW.pt (w_or (t_eq hK hu (e_slice hK (ev 0) (o_some e_int) o_none) (e_tup a_nil)) (w_or (t_eq hK hu (e_slice hK (ev 1) (o_some e_int) o_none) (e_tup a_nil)) (w_or1 (t_ne hK hu (e_slice hK (ev 0) (o_some e_int) o_none) (e_slice hK (ev 1) (o_some e_int) o_none))))))
        (ss_one (s_ret e_bl))
        ss_nil)
        (ss_one (s_ret (e_and (e_ne hK hu (e_lst (a_cons (e_ix hK (ev 0) e_int) (a_cons (e_ix hK (ev 1) e_int) a_nil))) (e_lst (a_cons e_str (a_cons e_str a_nil)))) (e_one (e_ne hK hu (e_lst (a_cons (e_ix hK (ev 0) e_int) (a_cons (e_ix hK (ev 1) e_int) a_nil))) (e_lst (a_cons e_str (a_cons e_str a_nil))))))))), ?_⟩
    cases s with
    | one a =>
      walk_at "go"
      exact q
    | two a b =>
      simp only [Stp.ok, Bool.and_eq_true] at h1
      obtain ⟨ha, hb⟩ := h1
      cases t with
      | one c =>
        simp only [Stp.ok] at h2
        walk_at "go"
        exact q
      | two c d =>
        simp only [Stp.ok, Bool.and_eq_true] at h2
        obtain ⟨hc, hd⟩ := h2
        walk_at "go"
        cases e1 : b == d
        · walk_at "eq"
          walk_at "go"
          simp only [confl, e1, Bool.false_and] at q
          exact q
        · simp only [confl, e1, Bool.true_and, ← due_eq] at q
          walk_at "eq"
          walk_at "go"
          walk_at "eq"
          cases e2 : (a == "read") && (c == "read")
          · rw [e2] at q
            walk_at "go"
            walk_at "eq"
            exact q
          · rw [e2] at q
            walk_at "go"
            exact q
def sp_law_names : WSp := fun ws M Q _ => ∃ (a : Addr) (b c : Int) (n : Nat) (u : Unit), ws = [.ref a, .int n] ∧ M a = some (.lst [.int b, .int c]) ∧ n ≤ 26 ∧ ∀ (b' c' : Int) (ns : List Str), ns.length = n → (∀ x ∈ ns, PySem.PyData.strOk x = true) → Q (.lst (ns.map .str)) (M.upd a (.lst [.int b', .int c']))
theorem ok_law_names (T : Txt K mg) : FnOk P w K mg base CX0 2 T.a_law_names T.fd_law_names ["_law_source_here", "_law_count"] (LSp K sp_law_names) := by
  refine fun_ok (k := 1) T.F_law_names sc_law_names (fun ws M Q E h => ?_) (fun cdv A outer s H E B ws M Q E' hBK hr h => ?_)
  · obtain ⟨_, _, _, _, _, rfl, _⟩ := h
    rfl
  · have hK : K = B.K := hBK.symm
    have hu := hr.units
    obtain ⟨a, b, c, n, _, rfl, hM, hn, q⟩ := h
    refine ⟨_, (ss_cons (s_set (i := 2) sc_law_names.nd rfl (Or.inr rfl) e_str)
        (ss_cons (s_asg (e_tup (a_cons (e_call hK (ok_law_draw T) (hr.mono (by decide)) rfl T.g_law_draw T.F_law_draw.kp T.B_law_draw .nil pass0 xpass0 rd_nil (a_cons (ev 0) (a_cons e_int a_nil))) (a_cons (e_add hK e_int (e_mul e_int (e_call hK (ok_law_draw T) (hr.mono (by decide)) rfl T.g_law_draw T.F_law_draw.kp T.B_law_draw .nil pass0 xpass0 rd_nil (a_cons (ev 0) (a_cons e_int a_nil))))) a_nil))) (g_tup (n := 2) rfl hK (gs_cons (g_name (i := 3) sc_law_names.nd rfl (Or.inr rfl)) (gs_cons (g_name (i := 4) sc_law_names.nd rfl (Or.inr rfl)) gs_nil))))
        (ss_cons (s_set (i := 5) sc_law_names.nd rfl (Or.inr rfl) (e_ix hK (e_lst (a_cons e_str (a_cons e_str (a_cons e_str (a_cons e_str a_nil))))) (e_call hK (ok_law_draw T) (hr.mono (by decide)) rfl T.g_law_draw T.F_law_draw.kp T.B_law_draw .nil pass0 xpass0 rd_nil (a_cons (ev 0) (a_cons e_int a_nil)))))
        (ss_one (s_ret (e_lc (own := [("_law_k", 6)]) (fg_name (by decide)) rfl sc_law_names.nd (i_range1 rfl T.b_range (a_cons (ev 1) a_nil)) (blkOk_by (own := [("_law_k", 6)]) (N := ["_law_source_here", "_law_count", "_law_signs", "_law_origin", "_law_step", "_law_tail", "_law_k"]) (sc := defScope s_law_names) (by decide +kernel)) (fun _ _ _ _ _ => (pg_name (i := 6) sc_law_names.nd rfl (Or.inl rfl))) (fun _ _ _ _ _ => ts_nil) (fun _ _ _ _ _ => (e_add hK (e_ix hK (ev 2) (e_mod (e_add hK (ev 3) (e_mul (ev 4) (ev 6))) e_int)) (ev 5))))))))), ?_⟩
    walk_at "w"
    refine ⟨a, b, c, 26, (), rfl, hM, by decide, by decide, fun o b1 c1 o0 o1 => ?_⟩
    walk_at "w"
    refine ⟨a, b1, c1, 6, (), rfl, Mp.upd_same, by decide, by decide, fun s b2 c2 s0 s1 => ?_⟩
    rw [Mp.upd_upd]
    walk_at "go"
    refine ⟨a, b2, c2, 4, (), rfl, Mp.upd_same, by decide, by decide, fun r b3 c3 r0 r1 => ?_⟩
    rw [Mp.upd_upd]
    walk_at "w"
    rw [show atI [W.str "", W.str "q", W.str "abcd", W.str "abcdefg"] r = some (.str (tailOf r)) from tail_at r0 r1]
    walk_at "go"
    refine lc_map (nameOf o (1 + 2 * s) (tailOf r)) (by simp [rangeW]; omega) (fun x hx M Q R q => ?_) ?_
    · obtain ⟨i, hi, rfl⟩ := mem_rangeW hx
      walk_at "go"
      rw [letter_at' (Int.emod_nonneg _ (by decide)) (Int.emod_lt_of_pos _ (by decide))]
      walk_at "go"
      refine ⟨?_, q⟩
      have h7 := tail_len r
      refine le_line ?_
      show 1 + (tailOf r).length ≤ 100000
      omega
    · rw [names_map]
      refine q b3 c3 _ (by rw [List.length_map, List.length_range]; omega) (fun x hx => ?_)
      obtain ⟨k, _, rfl⟩ := List.mem_map.mp hx
      exact nm_ok _ _ (by have := Int.emod_lt_of_pos (o + (1 + 2 * s) * (0 + (k : Int))) (show (0 : Int) < 26 by decide); omega) (tail_ok r)
def sp_law : WSp := spLaw
theorem ok_law (T : Txt K mg) : FnOk P w K mg base CX0 3 T.a_law T.fd_law ["_law_script"] (LSp K sp_law) := by
  refine fun_ok (k := 2) T.F_law sc_law (fun ws M Q E h => ?_) (fun cdv A outer s H E B ws M Q E' hBK hr h => ?_)
  · obtain ⟨_, rfl, _⟩ := h
    rfl
  · have hK : K = B.K := hBK.symm
    have hu := hr.units
    obtain ⟨ns, rfl, hl, q⟩ := h
    refine ⟨_, (ss_cons (s_for PassesOwn.never rfl (i_range1 rfl T.b_range (a_cons (e_max2 rfl rfl T.b_max (a_cons e_int (a_cons (e_min2 rfl rfl T.b_min (a_cons (e_len hK rfl T.b_len (a_cons (ev 0) a_nil)) (a_cons e_int a_nil))) a_nil))) a_nil)) (g_name (i := 1) sc_law.nd rfl (Or.inl rfl))
        (ss_cons (s_set (i := 2) sc_law.nd rfl (Or.inl rfl) (e_call hK (ok_law_source T) (hr.mono (by decide)) rfl T.g_law_source T.F_law_source.kp T.B_law_source .nil pass0 xpass0 rd_nil (a_cons (ev 0) (a_cons (ev 1) a_nil))))
          (ss_cons (s_set (i := 3) sc_law.nd rfl (Or.inl rfl) (e_call hK (ok_law_names T) (hr.mono (by decide)) rfl T.g_law_names T.F_law_names.kp T.B_law_names .nil pass0 xpass0 rd_nil (a_cons (ev 2) (a_cons e_int a_nil))))
          (ss_cons (s_set (i := 4) sc_law.nd rfl (Or.inl rfl) (e_lst (a_cons (e_tup (a_cons e_str a_nil)) a_nil)))
          (ss_cons (s_for PassesOwn.never rfl (i_seq hK (e_lst (a_cons e_str (a_cons e_str (a_cons e_str a_nil))))) (g_name (i := 5) sc_law.nd rfl (Or.inr rfl))
          (ss_one (s_set (i := 4) sc_law.nd rfl (Or.inl rfl) (e_add hK (ev 4) (e_lc (own := [("_law_name", 9)]) (fg_name (by decide)) rfl sc_law.nd (i_seq hK (e_slice hK (ev 3) o_none (o_some e_int))) (blkOk_by (own := [("_law_name", 9)]) (N := ["_law_script", "_law_k", "_law_source_here", "_law_names_here", "_law_steps", "_law_word", "_law_one", "_law_other", "_law_told", "_law_name"]) (sc := defScope s_law) (by decide +kernel)) (fun _ _ _ _ _ => (pg_name (i := 9) sc_law.nd rfl (Or.inl rfl))) (fun _ _ _ _ _ => ts_nil) (fun _ _ _ _ _ => (e_tup (a_cons (ev 5) (a_cons (ev 9) a_nil)))))))))
          (ss_cons (s_for PassesOwn.never rfl (i_seq hK (e_lst (a_cons e_str (a_cons e_str a_nil)))) (g_name (i := 5) sc_law.nd rfl (Or.inr rfl))
          (ss_one (s_set (i := 4) sc_law.nd rfl (Or.inl rfl) (e_add hK (ev 4) (e_lc (own := [("_law_name", 9)]) (fg_name (by decide)) rfl sc_law.nd (i_seq hK (e_slice hK (ev 3) (o_some e_int) o_none)) (blkOk_by (own := [("_law_name", 9)]) (N := ["_law_script", "_law_k", "_law_source_here", "_law_names_here", "_law_steps", "_law_word", "_law_one", "_law_other", "_law_told", "_law_name"]) (sc := defScope s_law) (by decide +kernel)) (fun _ _ _ _ _ => (pg_name (i := 9) sc_law.nd rfl (Or.inl rfl))) (fun _ _ _ _ _ => ts_nil) (fun _ _ _ _ _ => (e_tup (a_cons (ev 5) (a_cons (ev 9) a_nil)))))))))
          (ss_one (s_for PassesOwn.never rfl (i_seq hK (ev 4)) (g_name (i := 6) sc_law.nd rfl (Or.inl rfl))
          (ss_one (s_for PassesOwn.never rfl (i_seq hK (ev 4)) (g_name (i := 7) sc_law.nd rfl (Or.inl rfl))
            (ss_cons (s_set (i := 8) sc_law.nd rfl (Or.inl rfl) (e_call hK (ok_conflicts T) (hr.mono (by decide)) rfl T.g_conflicts T.F_conflicts.kp T.B_conflicts .nil pass0 xpass0 rd_nil (a_cons (ev 6) (a_cons (ev 7) a_nil))))
              (ss_one (s_if (PW.pt (w_or (t_not (t_val (e_isinst hK rfl T.b_isinstance (a_cons (ev 8) (a_cons (e_ty (T := "bool") rfl T.b_bool (by decide +kernel)) a_nil))))) (w_or (t_ne hK hu (ev 8) (e_call hK (ok_law_due T) (hr.mono (by decide)) rfl T.g_law_due T.F_law_due.kp T.B_law_due .nil pass0 xpass0 rd_nil (a_cons (ev 6) (a_cons (ev 7) a_nil)))) (w_or1 (t_ne hK hu (e_call hK (ok_conflicts T) (hr.mono (by decide)) rfl T.g_conflicts T.F_conflicts.kp T.B_conflicts .nil pass0 xpass0 rd_nil (a_cons (ev 7) (a_cons (ev 6) a_nil))) (ev 8))))))
              (ss_one (s_ret e_bl))
              ss_nil)))))))))))))
        (ss_one (s_ret e_bl))), ?_⟩
    walk_at "w"
    rw [maxI_eq, minI_eq]
    refine And.intro (by omega) ?_
    refine for_go (fun x => ∃ k : Nat, k < 64 ∧ x = .int k) (fun τ _ => ∃ v1 v2 v3 v4 v5 v6 v7 v8 v9, τ = [some (.rol (ns.map .int)), v1, v2, v3, v4, v5, v6, v7, v8, v9]) ?_ ⟨_, _, _, _, _, _, _, _, _, rfl⟩ ?_ (fun τ M _ => q M)
    · intro x hx
      obtain ⟨i, hi, rfl⟩ := mem_rangeW hx
      exact ⟨i, by omega, by rw [Int.zero_add]⟩
    · rintro x τ M k ⟨i, hi, rfl⟩ ⟨v1, v2, v3, v4, v5, v6, v7, v8, v9, rfl⟩ hk
      walk_at "go"
      refine ⟨ns, i, rfl, hi, fun p b c hp => ?_⟩
      walk_at "go"
      refine ⟨p, b, c, 4, (), rfl, Mp.upd_same, by decide, fun b' c' nm hnm nok => ?_⟩
      rw [Mp.upd_upd]
      obtain ⟨n0, n1, n2, n3, rfl⟩ : ∃ n0 n1 n2 n3, nm = [n0, n1, n2, n3] := by
        match nm, hnm with
        | [a, b, c, d], _ => exact ⟨a, b, c, d, rfl⟩
      have k0 := nok n0 (by simp)
      have k1 := nok n1 (by simp)
      have k2 := nok n2 (by simp)
      have k3 := nok n3 (by simp)
      have cut_a : cutL (List.map W.str [n0, n1, n2, n3]) none (some 2) = [.str n0, .str n1] := rfl
      have cut_b : cutL (List.map W.str [n0, n1, n2, n3]) (some 2) none = [.str n2, .str n3] := rfl
      walk_at "go"
      refine for_cons ?_
      walk_at "go"
      rw [cut_a]
      refine lc_map (fun w => .tup [.str "read", w]) ?_ ?_ ?_
      · show 2 ≤ 100000
        omega
      · intro x hx M Q R q
        walk_at "go"
        exact q
      walk_at "go"
      refine for_cons ?_
      walk_at "go"
      rw [cut_a]
      refine lc_map (fun w => .tup [.str "write", w]) ?_ ?_ ?_
      · show 2 ≤ 100000
        omega
      · intro x hx M Q R q
        walk_at "go"
        exact q
      walk_at "go"
      refine for_cons ?_
      walk_at "go"
      rw [cut_a]
      refine lc_map (fun w => .tup [.str "add", w]) ?_ ?_ ?_
      · show 2 ≤ 100000
        omega
      · intro x hx M Q R q
        walk_at "go"
        exact q
      walk_at "go"
      refine for_nil ?_
      walk_at "go"
      refine for_cons ?_
      walk_at "go"
      rw [cut_b]
      refine lc_map (fun w => .tup [.str "take", w]) ?_ ?_ ?_
      · show 2 ≤ 100000
        omega
      · intro x hx M Q R q
        walk_at "go"
        exact q
      walk_at "go"
      refine for_cons ?_
      walk_at "go"
      rw [cut_b]
      refine lc_map (fun w => .tup [.str "give", w]) ?_ ?_ ?_
      · show 2 ≤ 100000
        omega
      · intro x hx M Q R q
        walk_at "go"
        exact q
      walk_at "go"
      refine for_nil ?_
      walk_at "go"
      have hall : ∀ x ∈ ([W.tup [W.str "own"]] ++ List.map (fun w => W.tup [W.str "read", w]) [W.str n0, W.str n1] ++ List.map (fun w => W.tup [W.str "write", w]) [W.str n0, W.str n1] ++
          List.map (fun w => W.tup [W.str "add", w]) [W.str n0, W.str n1] ++ List.map (fun w => W.tup [W.str "take", w]) [W.str n2, W.str n3] ++ List.map (fun w => W.tup [W.str "give", w]) [W.str n2, W.str n3]), ∃ s : Stp, s.ok = true ∧ x = s.w := by
        intro x hx
        have two : ∀ a b : Str, PySem.PyData.strOk a = true → PySem.PyData.strOk b = true → ∃ s : Stp, s.ok = true ∧ W.tup [W.str a, W.str b] = s.w := fun a b ha hb => ⟨.two a b, by simp [Stp.ok, ha, hb], rfl⟩
        simp only [List.map_cons, List.map_nil, List.cons_append, List.nil_append, List.mem_cons, List.not_mem_nil, or_false] at hx
        rcases hx with rfl | rfl | rfl | rfl | rfl | rfl | rfl | rfl | rfl | rfl | rfl
        · exact ⟨.one "own", by decide +kernel, rfl⟩
        all_goals exact two _ _ (by decide +kernel) (by assumption)
      revert hall
      generalize ([W.tup [W.str "own"]] ++ List.map (fun w => W.tup [W.str "read", w]) [W.str n0, W.str n1] ++ List.map (fun w => W.tup [W.str "write", w]) [W.str n0, W.str n1] ++
          List.map (fun w => W.tup [W.str "add", w]) [W.str n0, W.str n1] ++ List.map (fun w => W.tup [W.str "take", w]) [W.str n2, W.str n3] ++ List.map (fun w => W.tup [W.str "give", w]) [W.str n2, W.str n3]) = L
      intro hall
      refine for_go (fun x => ∃ s : Stp, s.ok = true ∧ x = s.w) (fun τ _ => ∃ v1 v2 v3 v5 v6 v7 v8 v9, τ = [some (.rol (ns.map .int)), v1, v2, v3, some (.lst L), v5, v6, v7, v8, v9]) hall ⟨_, _, _, _, _, _, _, _, rfl⟩ ?_ ?_
      · rintro x τ M k1 ⟨s, sok, rfl⟩ ⟨v1, v2, v3, v5, v6, v7, v8, v9, rfl⟩ hk1
        walk_at "go"
        refine for_go (fun x => ∃ s : Stp, s.ok = true ∧ x = s.w) (fun τ _ => ∃ v1 v2 v3 v5 v7 v8 v9, τ = [some (.rol (ns.map .int)), v1, v2, v3, some (.lst L), v5, some s.w, v7, v8, v9]) hall ⟨_, _, _, _, _, _, _, rfl⟩ ?_ ?_
        · rintro x τ M k2 ⟨t, tok, rfl⟩ ⟨v1, v2, v3, v5, v7, v8, v9, rfl⟩ hk2
          walk_at "go"
          refine ⟨s, t, rfl, ?_⟩
          walk_at "go"
          refine ⟨s, t, rfl, sok, tok, ?_⟩
          walk_at "go"
          rw [weq_bl, beq_self_eq_true]
          walk_at "go"
          refine ⟨t, s, rfl, ?_⟩
          walk_at "go"
          rw [weq_bl, confl_comm, beq_self_eq_true]
          walk_at "go"
          exact hk2 _ _ ⟨_, _, _, _, _, _, _, rfl⟩
        · rintro τ M ⟨v1, v2, v3, v5, v7, v8, v9, rfl⟩
          exact hk1 _ _ ⟨_, _, _, _, _, _, _, _, rfl⟩
      · rintro τ M ⟨v1, v2, v3, v5, v6, v7, v8, v9, rfl⟩
        exact hk _ _ ⟨_, _, _, _, _, _, _, _, _, rfl⟩

end
theorem all_mk {l : PySem.W.OpenLaw} {w : World} {K : PySem.W.Frag} {h : Heap} {mg : Str → Option Value} {fa f0 f1 f2 f3 f4 f5 : Addr} (X : K.In h) (G : h.Ns mainGlobals mg) (hfa : mg "law" = some (.ref fa))
    {od0 an0 od1 an1 od2 an2 od3 an3 od4 an4 od5 an5 : Option Addr} {sl0 sl1 sl2 sl3 sl4 sl5 : Array (Option Value)} {oc0 kV0 dc0 pm0 cd0 ct0 oc1 kV1 dc1 pm1 cd1 ct1 oc2 kV2 dc2 pm2 cd2 ct2 oc3 kV3 dc3 pm3 cd3 ct3 oc4 kV4 dc4 pm4 cd4 ct4 oc5 kV5 dc5 pm5 cd5 ct5 : Value}
    {t_SHARED : Addr} {od_SHARED : Option Addr} {n_SHARED : Nat} {sl_SHARED : Array (Option Value)} {i_SHARED_0 i_SHARED_1 : Tok}
    (a0 : PySem.W.nsIn K mainGlobals "conflicts" = some (some (.ref f0))) (l0 : K.lookup f0 = some ⟨oc0, od0, .func (PySem.W.fnOf "conflicts" "conflicts" (defArgs s_conflicts) (defBody s_conflicts) (defScope s_conflicts) .none kV0 dc0 pm0 an0 cd0 ct0), sl0⟩) (c0 : PySem.W.codeIn K cd0 "conflicts" = true) (k0 : PySem.W.keepIn K (.ref f0) = true)
    (a1 : PySem.W.nsIn K mainGlobals "_law_source" = some (some (.ref f1))) (l1 : K.lookup f1 = some ⟨oc1, od1, .func (PySem.W.fnOf "_law_source" "_law_source" (defArgs s_law_source) (defBody s_law_source) (defScope s_law_source) .none kV1 dc1 pm1 an1 cd1 ct1), sl1⟩) (c1 : PySem.W.codeIn K cd1 "_law_source" = true) (k1 : PySem.W.keepIn K (.ref f1) = true)
    (a2 : PySem.W.nsIn K mainGlobals "_law_draw" = some (some (.ref f2))) (l2 : K.lookup f2 = some ⟨oc2, od2, .func (PySem.W.fnOf "_law_draw" "_law_draw" (defArgs s_law_draw) (defBody s_law_draw) (defScope s_law_draw) .none kV2 dc2 pm2 an2 cd2 ct2), sl2⟩) (c2 : PySem.W.codeIn K cd2 "_law_draw" = true) (k2 : PySem.W.keepIn K (.ref f2) = true)
    (a3 : PySem.W.nsIn K mainGlobals "_law_due" = some (some (.ref f3))) (l3 : K.lookup f3 = some ⟨oc3, od3, .func (PySem.W.fnOf "_law_due" "_law_due" (defArgs s_law_due) (defBody s_law_due) (defScope s_law_due) .none kV3 dc3 pm3 an3 cd3 ct3), sl3⟩) (c3 : PySem.W.codeIn K cd3 "_law_due" = true) (k3 : PySem.W.keepIn K (.ref f3) = true)
    (a4 : PySem.W.nsIn K mainGlobals "_law_names" = some (some (.ref f4))) (l4 : K.lookup f4 = some ⟨oc4, od4, .func (PySem.W.fnOf "_law_names" "_law_names" (defArgs s_law_names) (defBody s_law_names) (defScope s_law_names) .none kV4 dc4 pm4 an4 cd4 ct4), sl4⟩) (c4 : PySem.W.codeIn K cd4 "_law_names" = true) (k4 : PySem.W.keepIn K (.ref f4) = true)
    (a5 : PySem.W.nsIn K mainGlobals "law" = some (some (.ref f5))) (l5 : K.lookup f5 = some ⟨oc5, od5, .func (PySem.W.fnOf "law" "law" (defArgs s_law) (defBody s_law) (defScope s_law) .none kV5 dc5 pm5 an5 cd5 ct5), sl5⟩) (c5 : PySem.W.codeIn K cd5 "law" = true) (k5 : PySem.W.keepIn K (.ref f5) = true)
    (z_abs : PySem.W.nsIn K mainGlobals "abs" = some none)
    (z_bool : PySem.W.nsIn K mainGlobals "bool" = some none)
    (z_int : PySem.W.nsIn K mainGlobals "int" = some none)
    (z_isinstance : PySem.W.nsIn K mainGlobals "isinstance" = some none)
    (z_len : PySem.W.nsIn K mainGlobals "len" = some none)
    (z_max : PySem.W.nsIn K mainGlobals "max" = some none)
    (z_min : PySem.W.nsIn K mainGlobals "min" = some none)
    (z_range : PySem.W.nsIn K mainGlobals "range" = some none)
    (z_sum : PySem.W.nsIn K mainGlobals "sum" = some none)
    (u_SHARED : PySem.W.nsIn K mainGlobals "SHARED" = some (some (.ref t_SHARED))) (v_SHARED : K.lookup t_SHARED = some ⟨.type "tuple", od_SHARED, .seq [.str "read" i_SHARED_0, .str "add" i_SHARED_1].toArray n_SHARED, sl_SHARED⟩)
    : ∃ fd : FuncData, (∀ (s : Shared) (v : Value), BindsTo s fd ⟨[v], []⟩ [("_law_script", v)]) ∧ ∀ base : Heap, K.In base → base.Ns mainGlobals mg → FnOk l.prog w K mg base CX0 3 fa fd ["_law_script"] (LSp K spLaw) := by
  have e := hfa.symm.trans (PySem.W.mg_of X G a5)
  cases e
  have F0 := fun_mk (st := s_conflicts) l0 c0 k0
  have b0 := F0.binds (ps := ["one", "other"]) fun _ _ _ _ _ _ us hl => match us, hl with | [_, _], _ => rfl
  have F1 := fun_mk (st := s_law_source) l1 c1 k1
  have b1 := F1.binds (ps := ["_law_script", "_law_k"]) fun _ _ _ _ _ _ us hl => match us, hl with | [_, _], _ => rfl
  have F2 := fun_mk (st := s_law_draw) l2 c2 k2
  have b2 := F2.binds (ps := ["_law_source_here", "_law_many"]) fun _ _ _ _ _ _ us hl => match us, hl with | [_, _], _ => rfl
  have F3 := fun_mk (st := s_law_due) l3 c3 k3
  have b3 := F3.binds (ps := ["_law_one", "_law_other"]) fun _ _ _ _ _ _ us hl => match us, hl with | [_, _], _ => rfl
  have F4 := fun_mk (st := s_law_names) l4 c4 k4
  have b4 := F4.binds (ps := ["_law_source_here", "_law_count"]) fun _ _ _ _ _ _ us hl => match us, hl with | [_, _], _ => rfl
  have F5 := fun_mk (st := s_law) l5 c5 k5
  have b5 := F5.binds (ps := ["_law_script"]) fun _ _ _ _ _ _ us hl => match us, hl with | [_], _ => rfl
  let T : Txt K mg := {
    a_conflicts := _, fd_conflicts := _, F_conflicts := F0, B_conflicts := b0, g_conflicts := PySem.W.mg_of X G a0,
    a_law_source := _, fd_law_source := _, F_law_source := F1, B_law_source := b1, g_law_source := PySem.W.mg_of X G a1,
    a_law_draw := _, fd_law_draw := _, F_law_draw := F2, B_law_draw := b2, g_law_draw := PySem.W.mg_of X G a2,
    a_law_due := _, fd_law_due := _, F_law_due := F3, B_law_due := b3, g_law_due := PySem.W.mg_of X G a3,
    a_law_names := _, fd_law_names := _, F_law_names := F4, B_law_names := b4, g_law_names := PySem.W.mg_of X G a4,
    a_law := _, fd_law := _, F_law := F5, B_law := b5, g_law := PySem.W.mg_of X G a5,
    b_abs := PySem.W.mg_none_of X G z_abs,
    b_bool := PySem.W.mg_none_of X G z_bool,
    b_int := PySem.W.mg_none_of X G z_int,
    b_isinstance := PySem.W.mg_none_of X G z_isinstance,
    b_len := PySem.W.mg_none_of X G z_len,
    b_max := PySem.W.mg_none_of X G z_max,
    b_min := PySem.W.mg_none_of X G z_min,
    b_range := PySem.W.mg_none_of X G z_range,
    b_sum := PySem.W.mg_none_of X G z_sum,
    k_SHARED := _, kg_SHARED := PySem.W.mg_of X G u_SHARED, kt_SHARED := ⟨_, _, _, v_SHARED, rfl, rfl, (by show 2 ≤ sizeLine; decide), (.cons ⟨_, rfl⟩ (.cons ⟨_, rfl⟩ .nil))⟩ }
  exact ⟨PySem.W.fnOf "law" "law" (defArgs s_law) (defBody s_law) (defScope s_law) .none kV5 dc5 pm5 an5 cd5 ct5, fun s v => .of_eq rfl, fun base _ _ => ok_law T⟩
end Pf
open PySem PySem.W PyProof.Rows
set_option maxRecDepth 100000 in
set_option maxHeartbeats 0 in
theorem PySem.Challenge.cw_unbrokenruns_k21_steps_that_conflict_holds : PySem.Challenge.rw_unbrokenruns_k21_steps_that_conflict.Holds := by
  w_on; o_law; k_head; (case hw => w_witness2)
  k_fill
  refine L3.walk (k := 3) (x := "_law_script") (l := PySem.Challenge.rw_unbrokenruns_k21_steps_that_conflict) rfl rfl ⟨rfl, by decide, by decide⟩ (fun w h Y => PySem.W.kIn_of Y) ?F
  case F =>
    intro w mg fa h KX G hmg
    refine' Pf.all_mk KX G hmg ?a0 ?l0 ?c0 ?k0 ?a1 ?l1 ?c1 ?k1 ?a2 ?l2 ?c2 ?k2 ?a3 ?l3 ?c3 ?k3 ?a4 ?l4 ?c4 ?k4 ?a5 ?l5 ?c5 ?k5 ?z_abs ?z_bool ?z_int ?z_isinstance ?z_len ?z_max ?z_min ?z_range ?z_sum ?u_SHARED ?v_SHARED
    (case a0 => k_is)
    (case l0 => k_is)
    (case c0 => k_is)
    (case k0 => k_is)
    (case a1 => k_is)
    (case l1 => k_is)
    (case c1 => k_is)
    (case k1 => k_is)
    (case a2 => k_is)
    (case l2 => k_is)
    (case c2 => k_is)
    (case k2 => k_is)
    (case a3 => k_is)
    (case l3 => k_is)
    (case c3 => k_is)
    (case k3 => k_is)
    (case a4 => k_is)
    (case l4 => k_is)
    (case c4 => k_is)
    (case k4 => k_is)
    (case a5 => k_is)
    (case l5 => k_is)
    (case c5 => k_is)
    (case k5 => k_is)
    (case z_abs => k_is)
    (case z_bool => k_is)
    (case z_int => k_is)
    (case z_isinstance => k_is)
    (case z_len => k_is)
    (case z_max => k_is)
    (case z_min => k_is)
    (case z_range => k_is)
    (case z_sum => k_is)
    (case u_SHARED => k_is)
    (case v_SHARED => k_is)
#print axioms PySem.Challenge.cw_unbrokenruns_k21_steps_that_conflict_holds
