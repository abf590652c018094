import PyProof.Rows.All
import Wide.All
import OpenK.AllK
import Wide.FinOn
import HandS.ForMost
import HandS.Exc
import HandS.TryOnly
import HandS.ExcOwn
import HandS.IsInst
import HandS.Flow
import PyProof.DictMoreH
import HandS.Deep
import HandS.TupLen
import HandS.SetKeys
import PyProof.ReprRoads
import HandS.Conv
import HandS.Text
import HandS.Style
import HandS.Zip
import HandS.Iter
import KE.GoesMore
import HandS.Defaults
import HandS.Ends
import HandS.HeadEnd
import HandS.Head0
import HandS.Head1
import HandS.Head2
import HandS.HeadHook1
import HandS.HeadHook2
import KE.KStateDown
import PyProof.ExcBaseAll.ValueError
import PySem.Challenge.RW_termsonwires_k29_judged_acceptors
set_option Elab.async false
section
set_option Elab.async false
set_option linter.all false
set_option maxRecDepth 100000
set_option maxHeartbeats 400000
set_option autoImplicit false
/-! Mp1: data, the store of live objects, what they stand for in the abstract heap. -/
namespace Mp
open PySem L2

/-- a value: pure data; constant data of the module; a live (mutable) object -/
inductive W where
  | dat (x : PyData)
  | con (x : PyData)
  | obj (n : Nat)

inductive Ob where
  | lst (ws : List W)
  | dk (kvs : List (Key × W))
  | dt (kvs : List (List Key × W))

abbrev Store := List (Option Ob)
/-- an exception: the name of its class, what it bears -/
structure Xc where
  cls : Str
  arg : Option PyData := none

inductive Res (α : Type) where
  | ok (a : α) (S : Store)
  | exc (x : Xc) (S : Store)
  | stuck

abbrev M (α : Type) := Store → Res α
def ret {α : Type} (a : α) : M α := fun S => .ok a S
def bnd {α β : Type} (m : M α) (f : α → M β) : M β := fun S => match m S with
  | .ok a S' => f a S'
  | .exc x S' => .exc x S'
  | .stuck => .stuck
def halt {α : Type} : M α := fun _ => .stuck
def ofO {α : Type} : Option α → M α
  | some a => ret a
  | none => halt
theorem bnd_ok {α β : Type} {m : M α} {f : α → M β} {S S' : Store} {a : α} (h : m S = .ok a S') : bnd m f S = f a S' := by unfold bnd; rw [h]

def W.below (n : Nat) : W → Bool
  | .obj k => decide (k < n)
  | _ => true
def Ob.below (n : Nat) : Ob → Bool
  | .lst ws => ws.all (W.below n)
  | .dk kvs => kvs.all fun p => p.2.below n
  | .dt kvs => kvs.all fun p => p.2.below n

/-! ### what stands for what -/
def Live (m : List Addr) (S : Store) (a : Addr) : Prop := ∃ (n : Nat) (o : Ob), S[n]? = some (some o) ∧ m[n]? = some a

mutual
def Rp (L : Addr → Prop) (H : Hp) : PyData → V → Prop
  | .none, v => v = .non
  | .bool b, v => v = .bl b
  | .int i, v => v = .int i
  | .str x, v => v = .str x
  | .list ds, v => ∃ a vs, v = .ref a ∧ Rd H a (.lst vs) ∧ ¬ L a ∧ Rps L H ds vs
  | .tuple ds, v => ∃ a vs, v = .ref a ∧ H a = some (.tup vs) ∧ ¬ L a ∧ Rps L H ds vs
  | .dict _, _ => False
def Rps (L : Addr → Prop) (H : Hp) : List PyData → List V → Prop
  | [], vs => vs = []
  | d :: ds, vs => ∃ v r, vs = v :: r ∧ Rp L H d v ∧ Rps L H ds r
end
mutual
/-- a constant of the module -/
def Rk (K : PySem.W.Frag) : PyData → V → Prop
  | .none, v => v = .non
  | .bool b, v => v = .bl b
  | .int i, v => v = .int i
  | .str x, v => v = .str x
  | .list ds, v => ∃ a vs, v = .ref a ∧ (∀ H, SqL K H a vs) ∧ Rks K ds vs
  | .tuple ds, v => ∃ a vs, v = .ref a ∧ (∀ H, SqT K H a vs) ∧ Rks K ds vs
  | .dict _, _ => False
def Rks (K : PySem.W.Frag) : List PyData → List V → Prop
  | [], vs => vs = []
  | d :: ds, vs => ∃ v r, vs = v :: r ∧ Rk K d v ∧ Rks K ds r
end

section
variable {L L' : Addr → Prop} {H H' : Hp} {K : PySem.W.Frag}
mutual
theorem Rp.mono (h : ∀ a u, ¬ L a → H a = some u → H' a = some u ∧ ¬ L' a) : ∀ (d : PyData) (v : V), Rp L H d v → Rp L' H' d v
  | .none, _, r => by unfold Rp at r ⊢; exact r
  | .bool _, _, r => by unfold Rp at r ⊢; exact r
  | .int _, _, r => by unfold Rp at r ⊢; exact r
  | .str _, _, r => by unfold Rp at r ⊢; exact r
  | .list ds, v, r => by
    unfold Rp at r ⊢
    obtain ⟨a, vs, e, rd, nl, rs⟩ := r
    rcases rd with q | ⟨o, q⟩
    · exact ⟨a, vs, e, .inl (h a _ nl q).1, (h a _ nl q).2, Rps.mono h ds vs rs⟩
    · exact ⟨a, vs, e, .inr ⟨o, (h a _ nl q).1⟩, (h a _ nl q).2, Rps.mono h ds vs rs⟩
  | .tuple ds, v, r => by
    unfold Rp at r ⊢
    obtain ⟨a, vs, e, q, nl, rs⟩ := r
    exact ⟨a, vs, e, (h a _ nl q).1, (h a _ nl q).2, Rps.mono h ds vs rs⟩
  | .dict _, _, r => by unfold Rp at r; exact r.elim
theorem Rps.mono (h : ∀ a u, ¬ L a → H a = some u → H' a = some u ∧ ¬ L' a) : ∀ (ds : List PyData) (vs : List V), Rps L H ds vs → Rps L' H' ds vs
  | [], _, r => by unfold Rps at r ⊢; exact r
  | d :: ds, vs, r => by
    unfold Rps at r ⊢
    obtain ⟨v, t, e, r1, r2⟩ := r
    exact ⟨v, t, e, Rp.mono h d v r1, Rps.mono h ds t r2⟩
end
mutual
theorem Rp.dp : ∀ (d : PyData) (v : V), Rp L H d v → Dp K H v d
  | .none, _, r => by unfold Rp at r; subst r; exact .non
  | .bool _, _, r => by unfold Rp at r; subst r; exact .bl _
  | .int _, _, r => by unfold Rp at r; subst r; exact .int _
  | .str _, _, r => by unfold Rp at r; subst r; exact .str _
  | .list ds, v, r => by
    unfold Rp at r
    obtain ⟨a, vs, e, rd, nl, rs⟩ := r
    subst e
    exact .lst (.inl rd) (Rps.dp ds vs rs)
  | .tuple ds, v, r => by
    unfold Rp at r
    obtain ⟨a, vs, e, q, nl, rs⟩ := r
    subst e
    exact .tup (.inl (.inl q)) (Rps.dp ds vs rs)
  | .dict _, _, r => by unfold Rp at r; exact r.elim
theorem Rps.dp : ∀ (ds : List PyData) (vs : List V), Rps L H ds vs → DpAll K H vs ds
  | [], _, r => by unfold Rps at r; subst r; exact .nil
  | d :: ds, vs, r => by
    unfold Rps at r
    obtain ⟨v, t, e, r1, r2⟩ := r
    subst e
    exact .cons (Rp.dp d v r1) (Rps.dp ds t r2)
end
mutual
theorem Rk.dp : ∀ (d : PyData) (v : V), Rk K d v → Dp K H v d
  | .none, _, r => by unfold Rk at r; subst r; exact .non
  | .bool _, _, r => by unfold Rk at r; subst r; exact .bl _
  | .int _, _, r => by unfold Rk at r; subst r; exact .int _
  | .str _, _, r => by unfold Rk at r; subst r; exact .str _
  | .list ds, v, r => by
    unfold Rk at r
    obtain ⟨a, vs, e, rd, rs⟩ := r
    subst e
    exact .lst (rd H) (Rks.dp ds vs rs)
  | .tuple ds, v, r => by
    unfold Rk at r
    obtain ⟨a, vs, e, q, rs⟩ := r
    subst e
    exact .tup (q H) (Rks.dp ds vs rs)
  | .dict _, _, r => by unfold Rk at r; exact r.elim
theorem Rks.dp : ∀ (ds : List PyData) (vs : List V), Rks K ds vs → DpAll K H vs ds
  | [], _, r => by unfold Rks at r; subst r; exact .nil
  | d :: ds, vs, r => by
    unfold Rks at r
    obtain ⟨v, t, e, r1, r2⟩ := r
    subst e
    exact .cons (Rk.dp d v r1) (Rks.dp ds t r2)
end
end

/-! ### values, objects, the store -/
def Rw (K : PySem.W.Frag) (X : Addr → Prop) (m : List Addr) (S : Store) (H : Hp) : W → V → Prop
  | .dat x, v => Rp (fun a => Live m S a ∨ X a) H x v
  | .con x, v => Rk K x v
  | .obj n, v => ∃ a, m[n]? = some a ∧ v = .ref a
abbrev Rws (K : PySem.W.Frag) (X : Addr → Prop) (m : List Addr) (S : Store) (H : Hp) : List W → List V → Prop := Paired (Rw K X m S H)
inductive Ro (K : PySem.W.Frag) (X : Addr → Prop) (m : List Addr) (S : Store) (H : Hp) : Ob → HO → Prop
  | lst {ws : List W} {vs : List V} (r : Rws K X m S H ws vs) : Ro K X m S H (.lst ws) (.lst vs)
  | dk {kvs : List (Key × W)} {us : List (Key × V)} (r : Paired (fun (p : Key × W) (q : Key × V) => p.1 = q.1 ∧ Rw K X m S H p.2 q.2) kvs us) : Ro K X m S H (.dk kvs) (.dK us)
  | dt {kvs : List (List Key × W)} {us : List (List Key × V)} (r : Paired (fun (p : List Key × W) (q : List Key × V) => p.1 = q.1 ∧ Rw K X m S H p.2 q.2) kvs us) : Ro K X m S H (.dt kvs) (.dT us)
structure Sim (K : PySem.W.Frag) (X : Addr → Prop) (m : List Addr) (S : Store) (H : Hp) : Prop where
  len : m.length = S.length
  inj : ∀ (i j : Nat) (a : Addr) (oi oj : Ob), S[i]? = some (some oi) → S[j]? = some (some oj) → m[i]? = some a → m[j]? = some a → i = j
  ob : ∀ (n : Nat) (o : Ob), S[n]? = some (some o) → ∃ a ho, m[n]? = some a ∧ H a = some ho ∧ Ro K X m S H o ho
  low : ∀ (n : Nat) (o : Ob), S[n]? = some (some o) → o.below n = true
  ext : ∀ a, X a → (∃ u, H a = some u) ∧ ¬ Live m S a
/-- what is not live stays -/
structure Pv (m : List Addr) (S : Store) (H : Hp) (m' : List Addr) (S' : Store) (H' : Hp) : Prop where
  pre : ∀ (n : Nat) (a : Addr), m[n]? = some a → m'[n]? = some a
  stay : ∀ (a : Addr) (u : HO), ¬ Live m S a → H a = some u → H' a = some u ∧ ¬ Live m' S' a
abbrev Slots := List (Option W)
structure Rg (K : PySem.W.Frag) (X : Addr → Prop) (m : List Addr) (S : Store) (H : Hp) (g : Slots) (σ : St) : Prop where
  len : g.length = σ.length
  at_ : ∀ (i : Nat) (w : W), g[i]? = some (some w) → ∃ v, σ[i]? = some (some v) ∧ Rw K X m S H w v
section
variable {K : PySem.W.Frag} {X : Addr → Prop} {m m' m2 : List Addr} {S S' S2 : Store} {H H' H2 : Hp}
theorem Pv.refl : Pv m S H m S H := ⟨fun _ _ h => h, fun _ _ n h => ⟨h, n⟩⟩
theorem Pv.trans (p : Pv m S H m' S' H') (q : Pv m' S' H' m2 S2 H2) : Pv m S H m2 S2 H2 :=
  ⟨fun n a h => q.pre n a (p.pre n a h), fun a u n h => q.stay a u (p.stay a u n h).2 (p.stay a u n h).1⟩
theorem Rw.mono (p : Pv m S H m' S' H') : ∀ (w : W) (v : V), Rw K X m S H w v → Rw K X m' S' H' w v
  | .dat x, v, r => Rp.mono (fun a u n h => ⟨(p.stay a u (fun l => n (.inl l)) h).1, fun l => l.elim (p.stay a u (fun l => n (.inl l)) h).2 fun x => n (.inr x)⟩) x v r
  | .con x, v, r => r
  | .obj n, v, ⟨a, e, q⟩ => ⟨a, p.pre n a e, q⟩
theorem paired_mono {α β : Type} {F G : α → β → Prop} : ∀ {l : List α} {l' : List β}, Paired F l l' → (∀ a b, F a b → G a b) → Paired G l l'
  | _, _, .nil, _ => .nil
  | _, _, .cons r t, h => .cons (h _ _ r) (paired_mono t h)
theorem Rws.mono (p : Pv m S H m' S' H') {ws : List W} {vs : List V} (r : Rws K X m S H ws vs) : Rws K X m' S' H' ws vs := paired_mono r fun w v => Rw.mono p w v
theorem Ro.mono (p : Pv m S H m' S' H') (o : Ob) (ho : HO) (r : Ro K X m S H o ho) : Ro K X m' S' H' o ho := by
  cases r with
  | lst r => exact .lst (Rws.mono p r)
  | dk r => exact .dk (paired_mono r fun a b h => ⟨h.1, Rw.mono p _ _ h.2⟩)
  | dt r => exact .dt (paired_mono r fun a b h => ⟨h.1, Rw.mono p _ _ h.2⟩)
theorem Rg.mono {g : Slots} {σ : St} (p : Pv m S H m' S' H') (r : Rg K X m S H g σ) : Rg K X m' S' H' g σ :=
  ⟨r.len, fun i w h => let ⟨v, e, q⟩ := r.at_ i w h; ⟨v, e, Rw.mono p w v q⟩⟩
theorem Rg.set {g : Slots} {σ : St} {w : W} {v : V} (r : Rg K X m S H g σ) (q : Rw K X m S H w v) (i : Nat) : Rg K X m S H (g.set i (some w)) (σ.set i (some v)) := by
  refine ⟨by simp [r.len], fun j u h => ?_⟩
  by_cases e : i = j
  · subst e
    have hl : i < g.length := by
      have := (List.getElem?_eq_some_iff.mp h).1
      simpa using this
    rw [List.getElem?_set_self hl] at h
    cases h
    exact ⟨v, List.getElem?_set_self (by rw [← r.len]; exact hl), q⟩
  · rw [List.getElem?_set_ne e] at h
    obtain ⟨x, e1, e2⟩ := r.at_ j u h
    exact ⟨x, by rw [List.getElem?_set_ne e]; exact e1, e2⟩
/-- two states of one mapping: the heap behind, nothing live changed -/
theorem Pv.new {p : Addr} {o : HO} (h : H p = none) (s : Sim K X m S H) : Pv m S H m S (upd H p o) :=
  ⟨fun _ _ h => h, fun a u n e => ⟨by rw [upd_ne (ne_of_none e h)]; exact e, n⟩⟩
theorem Sim.new {p : Addr} {o : HO} (s : Sim K X m S H) (h : H p = none) : Sim K X m S (upd H p o) where
  len := s.len
  inj := s.inj
  ob := fun n o e => by
    obtain ⟨a, ho, e1, e2, r⟩ := s.ob n o e
    exact ⟨a, ho, e1, by rw [upd_ne (ne_of_none e2 h)]; exact e2, Ro.mono (Pv.new h s) _ _ r⟩
  low := s.low
  ext := fun a x => let ⟨⟨u, e⟩, n⟩ := s.ext a x; ⟨⟨u, by rw [upd_ne (ne_of_none e h)]; exact e⟩, n⟩
theorem Sim.live_some (s : Sim K X m S H) {a : Addr} (l : Live m S a) : ∃ (n : Nat) (o : Ob) (ho : HO), S[n]? = some (some o) ∧ m[n]? = some a ∧ H a = some ho ∧ Ro K X m S H o ho := by
  obtain ⟨n, o, e1, e2⟩ := l
  obtain ⟨b, ho, e3, e4, r⟩ := s.ob n o e1
  rw [e2] at e3; cases e3
  exact ⟨n, o, ho, e1, e2, e4, r⟩
theorem Sim.fresh (s : Sim K X m S H) {p : Addr} (h : H p = none) : ¬ Live m S p := fun l => by
  obtain ⟨_, _, ho, _, _, e, _⟩ := s.live_some l
  rw [h] at e; cases e
theorem Sim.freshX (s : Sim K X m S H) {p : Addr} (h : H p = none) : ¬ (Live m S p ∨ X p) := fun l => by
  rcases l with l | x
  · exact s.fresh h l
  · obtain ⟨⟨u, e⟩, _⟩ := s.ext p x
    rw [h] at e; cases e
/-- a new live object -/
theorem live_alloc (hl : m.length = S.length) {p a : Addr} {o : Ob} : Live (m ++ [p]) (S ++ [some o]) a → Live m S a ∨ a = p := fun ⟨n, o', e1, e2⟩ => by
  by_cases h : n < S.length
  · rw [List.getElem?_append_left h] at e1
    rw [List.getElem?_append_left (by rw [hl]; exact h)] at e2
    exact .inl ⟨n, o', e1, e2⟩
  · rw [List.getElem?_append_right (by rw [hl]; omega)] at e2
    have q : n - m.length < 1 := by
      have := (List.getElem?_eq_some_iff.mp e2).1
      simpa using this
    have z : n - m.length = 0 := by omega
    rw [z] at e2
    simp at e2
    exact .inr e2.symm
theorem Pv.alloc (s : Sim K X m S H) {p : Addr} {o : Ob} {ho : HO} (h : H p = none) : Pv m S H (m ++ [p]) (S ++ [some o]) (upd H p ho) :=
  ⟨fun n a e => by rw [List.getElem?_append_left (List.getElem?_eq_some_iff.mp e).1]; exact e, fun a u n e => by
    have ne : a ≠ p := ne_of_none e h
    exact ⟨by rw [upd_ne ne]; exact e, fun l => (live_alloc s.len l).elim n ne⟩⟩
theorem Sim.alloc (s : Sim K X m S H) {p : Addr} {o : Ob} {ho : HO} (h : H p = none) (lo : o.below S.length = true) (r : Ro K X m S H o ho) : Sim K X (m ++ [p]) (S ++ [some o]) (upd H p ho) where
  len := by simp [s.len]
  inj := fun i j a oi oj h1 h2 h3 h4 => by
    have hl := s.len
    have key : ∀ (i : Nat) (oi : Ob), (S ++ [some o])[i]? = some (some oi) → (m ++ [p])[i]? = some a → (i < S.length ∧ S[i]? = some (some oi) ∧ m[i]? = some a) ∨ (i = S.length ∧ a = p) := fun i oi e1 e2 => by
      by_cases q : i < S.length
      · rw [List.getElem?_append_left q] at e1
        rw [List.getElem?_append_left (by rw [hl]; exact q)] at e2
        exact .inl ⟨q, e1, e2⟩
      · rw [List.getElem?_append_right (by rw [hl]; omega)] at e2
        have z : i - m.length < 1 := by
          have := (List.getElem?_eq_some_iff.mp e2).1
          simpa using this
        have z2 : i - m.length = 0 := by omega
        rw [z2] at e2
        simp at e2
        exact .inr ⟨by omega, e2.symm⟩
    rcases key i oi h1 h3 with ⟨q1, e1, f1⟩ | ⟨q1, e1⟩ <;> rcases key j oj h2 h4 with ⟨q2, e2, f2⟩ | ⟨q2, e2⟩
    · exact s.inj i j a oi oj e1 e2 f1 f2
    · subst e2; exact absurd ⟨i, oi, e1, f1⟩ (s.fresh h)
    · subst e1; exact absurd ⟨j, oj, e2, f2⟩ (s.fresh h)
    · omega
  ob := fun n o' e => by
    have pv := Pv.alloc (o := o) (ho := ho) s h
    by_cases q : n < S.length
    · rw [List.getElem?_append_left q] at e
      obtain ⟨a, hx, e1, e2, r'⟩ := s.ob n o' e
      exact ⟨a, hx, pv.pre n a e1, by rw [upd_ne (ne_of_none e2 h)]; exact e2, Ro.mono pv _ _ r'⟩
    · have hl := s.len
      have q1 : n < (S ++ [some o]).length := (List.getElem?_eq_some_iff.mp e).1
      have q2 : n = S.length := by simp at q1; omega
      subst q2
      simp at e
      subst e
      exact ⟨p, ho, by rw [← hl]; simp, upd_same, Ro.mono pv _ _ r⟩
  low := fun n o' e => by
    by_cases q : n < S.length
    · rw [List.getElem?_append_left q] at e
      exact s.low n o' e
    · have q1 : n < (S ++ [some o]).length := (List.getElem?_eq_some_iff.mp e).1
      have q2 : n = S.length := by simp at q1; omega
      subst q2
      simp at e
      subst e
      exact lo
  ext := fun a x => let ⟨⟨u, e⟩, n⟩ := s.ext a x; ⟨⟨u, by rw [upd_ne (ne_of_none e h)]; exact e⟩, fun l => (live_alloc s.len l).elim n (ne_of_none e h)⟩
/-- a live object is written -/
theorem live_set {n : Nat} {o o' : Ob} (e : S[n]? = some (some o)) {a : Addr} : Live m (S.set n (some o')) a ↔ Live m S a := by
  have hn : n < S.length := (List.getElem?_eq_some_iff.mp e).1
  constructor
  · rintro ⟨i, x, e1, e2⟩
    by_cases q : n = i
    · subst q; exact ⟨n, o, e, e2⟩
    · rw [List.getElem?_set_ne q] at e1; exact ⟨i, x, e1, e2⟩
  · rintro ⟨i, x, e1, e2⟩
    by_cases q : n = i
    · subst q; exact ⟨n, o', by rw [List.getElem?_set_self hn], e2⟩
    · exact ⟨i, x, by rw [List.getElem?_set_ne q]; exact e1, e2⟩
theorem Pv.write {n : Nat} {o o' : Ob} {a : Addr} {ho' : HO} (e : S[n]? = some (some o)) (ea : m[n]? = some a) : Pv m S H m (S.set n (some o')) (upd H a ho') :=
  ⟨fun _ _ h => h, fun b u nl h => by
    have ne : b ≠ a := fun q => nl (q ▸ ⟨n, o, e, ea⟩)
    exact ⟨by rw [upd_ne ne]; exact h, fun l => nl ((live_set e).mp l)⟩⟩
theorem Sim.write (s : Sim K X m S H) {n : Nat} {o o' : Ob} {a : Addr} {ho' : HO} (e : S[n]? = some (some o)) (ea : m[n]? = some a) (lo : o'.below n = true) (r : Ro K X m S H o' ho') : Sim K X m (S.set n (some o')) (upd H a ho') where
  len := by simp [s.len]
  inj := fun i j b oi oj h1 h2 h3 h4 => by
    have key : ∀ (i : Nat) (oi : Ob), (S.set n (some o'))[i]? = some (some oi) → ∃ oi', S[i]? = some (some oi') := fun i oi h => by
      by_cases q : n = i
      · subst q; exact ⟨o, e⟩
      · rw [List.getElem?_set_ne q] at h; exact ⟨oi, h⟩
    obtain ⟨x, hx⟩ := key i oi h1
    obtain ⟨y, hy⟩ := key j oj h2
    exact s.inj i j b x y hx hy h3 h4
  ob := fun i x h => by
    have pv : Pv m S H m (S.set n (some o')) (upd H a ho') := Pv.write e ea
    have hn : n < S.length := (List.getElem?_eq_some_iff.mp e).1
    by_cases q : n = i
    · subst q
      rw [List.getElem?_set_self hn] at h
      cases h
      exact ⟨a, ho', ea, upd_same, Ro.mono pv _ _ r⟩
    · rw [List.getElem?_set_ne q] at h
      obtain ⟨b, hx, e1, e2, r'⟩ := s.ob i x h
      have nb : b ≠ a := fun z => q (s.inj n i a o x e h ea (z ▸ e1))
      exact ⟨b, hx, e1, by rw [upd_ne nb]; exact e2, Ro.mono pv _ _ r'⟩
  low := fun i x h => by
    have hn : n < S.length := (List.getElem?_eq_some_iff.mp e).1
    by_cases q : n = i
    · subst q
      rw [List.getElem?_set_self hn] at h
      cases h
      exact lo
    · rw [List.getElem?_set_ne q] at h; exact s.low i x h
  ext := fun b x => by
    obtain ⟨⟨u, q⟩, nl⟩ := s.ext b x
    have ne : b ≠ a := fun z => nl (z ▸ ⟨n, o, e, ea⟩)
    exact ⟨⟨u, by rw [upd_ne ne]; exact q⟩, fun l => nl ((live_set e).mp l)⟩
/-- the store is cut back (what was made since is no longer live) -/
theorem live_take {k : Nat} {a : Addr} : Live (m.take k) (S.take k) a → Live m S a := fun ⟨n, o, e1, e2⟩ => by
  rw [List.getElem?_take] at e1 e2
  split at e1
  · rename_i h
    rw [if_pos h] at e2
    exact ⟨n, o, e1, e2⟩
  · cases e1
theorem W.below_mono {w : W} {i k : Nat} (h : w.below i = true) (hk : i ≤ k) : w.below k = true := by
  cases w with
  | obj j =>
    have q : j < i := of_decide_eq_true h
    exact decide_eq_true (Nat.lt_of_lt_of_le q hk)
  | _ => rfl
/-- a value without younger objects, in the store cut back -/
theorem Rw.take {k : Nat} : ∀ {w : W} {v : V}, w.below k = true → Rw K X m S H w v → Rw K X (m.take k) (S.take k) H w v
  | .dat x, v, _, r => Rp.mono (fun a u n h => ⟨h, fun l => n (l.imp live_take id)⟩) x v r
  | .con _, _, _, r => r
  | .obj n, _, b, ⟨a, e, q⟩ => ⟨a, by
      have hn : n < k := of_decide_eq_true b
      rw [List.getElem?_take, if_pos hn]; exact e, q⟩
theorem paired_take {α β γ : Type} {F G : α → β → Prop} {p : α → Bool} : ∀ {l : List α} {l' : List β}, l.all p = true → Paired F l l' → (∀ a b, p a = true → F a b → G a b) → Paired G l l'
  | _, _, _, .nil, _ => .nil
  | _, _, hp, .cons r t, h => by
    simp only [List.all_cons, Bool.and_eq_true] at hp
    exact .cons (h _ _ hp.1 r) (paired_take (γ := γ) hp.2 t h)
theorem Ro.take {k : Nat} {o : Ob} {ho : HO} (b : o.below k = true) (r : Ro K X m S H o ho) : Ro K X (m.take k) (S.take k) H o ho := by
  cases r with
  | lst r => exact .lst (paired_take (γ := Unit) (p := W.below k) b r fun _ _ h q => Rw.take h q)
  | @dk kvs us r => exact .dk (paired_take (γ := Unit) (p := fun p : Key × W => p.2.below k) b r fun _ _ h q => ⟨q.1, Rw.take h q.2⟩)
  | @dt kvs us r => exact .dt (paired_take (γ := Unit) (p := fun p : List Key × W => p.2.below k) b r fun _ _ h q => ⟨q.1, Rw.take h q.2⟩)
theorem Ob.below_mono {o : Ob} {i k : Nat} (h : o.below i = true) (hk : i ≤ k) : o.below k = true := by
  cases o with
  | lst ws => exact List.all_eq_true.mpr fun w hw => W.below_mono (List.all_eq_true.mp h w hw) hk
  | dk kvs => exact List.all_eq_true.mpr fun w hw => W.below_mono (List.all_eq_true.mp h w hw) hk
  | dt kvs => exact List.all_eq_true.mpr fun w hw => W.below_mono (List.all_eq_true.mp h w hw) hk
theorem Sim.take (s : Sim K X m S H) (k : Nat) : Sim K X (m.take k) (S.take k) H where
  len := by simp [s.len]
  inj := fun i j a oi oj h1 h2 h3 h4 => by
    rw [List.getElem?_take] at h1 h2 h3 h4
    split at h1 <;> split at h2 <;> simp_all
    exact s.inj i j a oi oj h1 h2 h3 h4
  ob := fun n o e => by
    rw [List.getElem?_take] at e
    split at e
    · rename_i hk
      obtain ⟨a, ho, e1, e2, r⟩ := s.ob n o e
      exact ⟨a, ho, by rw [List.getElem?_take, if_pos hk]; exact e1, e2, Ro.take (Ob.below_mono (s.low n o e) (Nat.le_of_lt hk)) r⟩
    · cases e
  low := fun n o e => by
    rw [List.getElem?_take] at e
    split at e
    · exact s.low n o e
    · cases e
  ext := fun a x => ⟨(s.ext a x).1, fun l => (s.ext a x).2 (live_take l)⟩
/-- behind a call: back to the caller's objects -/
theorem Pv.take (s : Sim K X m S H) (p : Pv m S H m' S' H') : Pv m S H (m'.take S.length) (S'.take S.length) H' :=
  ⟨fun n a e => by
    have hn : n < S.length := by rw [← s.len]; exact (List.getElem?_eq_some_iff.mp e).1
    rw [List.getElem?_take, if_pos hn]
    exact p.pre n a e, fun a u n h => ⟨(p.stay a u n h).1, fun l => (p.stay a u n h).2 (live_take l)⟩⟩
/-- a live object is no longer live -/
theorem live_kill {n : Nat} {a : Addr} : Live m (S.set n none) a → Live m S a := fun ⟨i, o, e1, e2⟩ => by
  by_cases q : n = i
  · subst q
    by_cases hn : n < S.length
    · rw [List.getElem?_set_self hn] at e1; cases e1
    · rw [List.getElem?_set] at e1
      simp at e1
  · rw [List.getElem?_set_ne q] at e1; exact ⟨i, o, e1, e2⟩
theorem Pv.kill {n : Nat} : Pv m S H m (S.set n none) H := ⟨fun _ _ h => h, fun a u nl h => ⟨h, fun l => nl (live_kill l)⟩⟩
theorem Sim.kill (s : Sim K X m S H) (n : Nat) : Sim K X m (S.set n none) H where
  len := by simp [s.len]
  inj := fun i j a oi oj h1 h2 h3 h4 => by
    have key : ∀ (i : Nat) (oi : Ob), (S.set n none)[i]? = some (some oi) → S[i]? = some (some oi) := fun i oi h => by
      by_cases q : n = i
      · subst q
        rw [List.getElem?_set] at h
        split at h <;> (try split at h) <;> simp_all
      · rw [List.getElem?_set_ne q] at h; exact h
    exact s.inj i j a oi oj (key _ _ h1) (key _ _ h2) h3 h4
  ob := fun i o h => by
    have key : S[i]? = some (some o) := by
      by_cases q : n = i
      · subst q
        rw [List.getElem?_set] at h
        split at h <;> (try split at h) <;> simp_all
      · rw [List.getElem?_set_ne q] at h; exact h
    obtain ⟨a, ho, e1, e2, r⟩ := s.ob i o key
    exact ⟨a, ho, e1, e2, Ro.mono Pv.kill _ _ r⟩
  low := fun i o h => by
    refine s.low i o ?_
    by_cases q : n = i
    · subst q
      rw [List.getElem?_set] at h
      split at h <;> (try split at h) <;> simp_all
    · rw [List.getElem?_set_ne q] at h; exact h
  ext := fun a x => ⟨(s.ext a x).1, fun l => (s.ext a x).2 (live_kill l)⟩
/-- the killed object's address is free of the live ones -/
theorem Sim.killed (s : Sim K X m S H) {n : Nat} {o : Ob} {a : Addr} (e : S[n]? = some (some o)) (ea : m[n]? = some a) : ¬ Live m (S.set n none) a := fun ⟨i, x, e1, e2⟩ => by
  have hn : n < S.length := (List.getElem?_eq_some_iff.mp e).1
  by_cases q : n = i
  · subst q
    rw [List.getElem?_set_self hn] at e1; cases e1
  · rw [List.getElem?_set_ne q] at e1
    exact q (s.inj n i a o x e e1 ea e2)
end
end Mp
end

section
set_option Elab.async false
set_option linter.all false
set_option maxRecDepth 100000
set_option maxHeartbeats 400000
set_option autoImplicit false
/-! Mp2: the interpreter. -/
namespace Mp
open PySem L2

/-- a module's constant as a value: scalars are plain data -/
def mkC : PyData → W
  | .list ds => .con (.list ds)
  | .tuple ds => .con (.tuple ds)
  | .dict kvs => .con (.dict kvs)
  | x => .dat x
/-- a list's | a tuple's items -/
def seqOf (S : Store) : W → Option (Bool × List W)
  | .dat (.list ds) => some (true, ds.map .dat)
  | .dat (.tuple ds) => some (false, ds.map .dat)
  | .con (.list ds) => some (true, ds.map mkC)
  | .con (.tuple ds) => some (false, ds.map mkC)
  | .obj n => match S[n]? with
    | some (some (.lst ws)) => some (true, ws)
    | _ => none
  | _ => none
/-- .. of the program's own -/
def ownSeq (S : Store) (w : W) : Option (Bool × List W) := match w with
  | .con _ => none
  | w => seqOf S w
/-- all data, or none -/
def allDat : List W → Option (List PyData)
  | [] => some []
  | .dat x :: r => (allDat r).map (x :: ·)
  | _ :: _ => none
/-- a value as data, looked at (live lists of data, two deep) -/
def view1 (S : Store) : W → Option PyData
  | .dat x => some x
  | .con x => some x
  | .obj n => match S[n]? with
    | some (some (.lst ws)) => (allDat ws).map .list
    | _ => none
/-- a value given away: a live list becomes data, and is live no longer -/
def give : W → M PyData
  | .dat x => ret x
  | .con _ => halt
  | .obj n => fun S => match S[n]? with
    | some (some (.lst ws)) => match allDat ws with
      | some ds => .ok (.list ds) (S.set n none)
      | none => .stuck
    | _ => .stuck
def gives : List W → M (List PyData)
  | [] => ret []
  | w :: r => bnd (give w) fun x => bnd (gives r) fun xs => ret (x :: xs)
/-- a value for a live object n's inside: data, or an elder object -/
def inside (n : Nat) : W → M W
  | .dat x => ret (.dat x)
  | .con _ => halt
  | .obj i => if i < n then ret (.obj i) else bnd (give (.obj i)) fun x => ret (.dat x)

/-- a bound on what is laid at once -/
def roomy (n : Nat) : Bool := decide (n ≤ 1000000)

/-- a new live object -/
def alloc (o : Ob) : M W := fun S => if o.below S.length = true then .ok (.obj S.length) (S ++ [some o]) else .stuck
/-- a new list: live, or data -/
def newList (live : Bool) (ws : List W) : M W := match live with
  | true => alloc (.lst ws)
  | false => match allDat ws with
    | some ds => ret (.dat (.list ds))
    | none => halt

/-! ### operators -/
def asInt : W → Option Int
  | .dat (.int i) => some i
  | _ => none
def asStr : W → Option Str
  | .dat (.str x) => some x
  | _ => none
def asBool : W → Option Bool
  | .dat (.bool b) => some b
  | _ => none
def mulOk (i j : Int) : Bool := decide (-(2 ^ 64) < i) && decide (i < 2 ^ 64) || decide (-(2 ^ 64) < j) && decide (j < 2 ^ 64)
def intOp : Operator → Int → Int → Option Int
  | .Add, i, j => some (i + j)
  | .Sub, i, j => some (i - j)
  | .Mult, i, j => if mulOk i j = true then some (i * j) else none
  | .FloorDiv, i, j => if j ≠ 0 ∧ j.natAbs < 1073741824 then some (i.fdiv j) else none
  | .Mod, i, j => if j ≠ 0 then some (i.fmod j) else none
  | .Pow, i, j => if 0 ≤ j ∧ j ≤ 1000000 ∧ i.natAbs < 2 ^ 64 then some (i ^ j.toNat) else none
  | _, _, _ => none
def binOp (live : Bool) (op : Operator) (x y : W) : M W := fun S =>
  match x, y with
  | .dat (.int i), .dat (.int j) => match intOp op i j with
    | some z => .ok (.dat (.int z)) S
    | none => .stuck
  | .dat (.str a), .dat (.str b) => match op with
    | .Add => if roomy (a.length + b.length) = true then .ok (.dat (.str (a ++ b))) S else .stuck
    | _ => .stuck
  | x, y => match op with
    | .Add => match seqOf S x, seqOf S y with
      | some (true, xs), some (true, ys) => if roomy (xs.length + ys.length) = true then newList live (xs ++ ys) S else .stuck
      | _, _ => .stuck
    | _ => .stuck
/-- in: flat things -/
def flatD : PyData → Bool
  | .none => true
  | .bool _ => true
  | .int _ => true
  | .str _ => true
  | _ => false
def depthOk (x : PyData) : Bool := SeqAt.shaped x
def keyOf : PyData → Option Key
  | .int i => some (.inl i)
  | .str x => some (.inr x)
  | _ => none
def keysOf : List PyData → Option (List Key)
  | [] => some []
  | x :: r => match keyOf x, keysOf r with
    | some k, some ks => some (k :: ks)
    | _, _ => none
/-- what a dict holds at a key -/
def getK {κ : Type} [DecidableEq κ] (kvs : List (κ × W)) (k : κ) : Option W := (kvs.find? fun kv => decide (kv.1 = k)).map (·.2)
def setK {κ : Type} [DecidableEq κ] (kvs : List (κ × W)) (k : κ) (v : W) : List (κ × W) :=
  if (kvs.any fun kv => decide (kv.1 = k)) = true then kvs.map (fun kv => if kv.1 = k then (kv.1, v) else kv) else kvs ++ [(k, v)]
/-- an empty dict is one of the kind that is asked for -/
def conv (o : Ob) (x : PyData) : Ob := match o, x with
  | .dk [], .tuple _ => .dt []
  | .dt [], .int _ => .dk []
  | .dt [], .str _ => .dk []
  | o, _ => o
/-- the dict at n asked for a key (a value): whether the key can be asked, what stands there -/
def askD (o : Ob) (x : PyData) : Option (Option W) := match o with
  | .dk kvs => match keyOf x with
    | some k => some (getK kvs k)
    | none => none
  | .dt kvs => match x with
    | .tuple ds => match keysOf ds with
      | some k => some (getK kvs k)
      | none => none
    | _ => none
  | .lst _ => none
def putD (o : Ob) (x : PyData) (v : W) : Option Ob := match o with
  | .dk kvs => match keyOf x with
    | some k => some (.dk (setK kvs k v))
    | none => none
  | .dt kvs => match x with
    | .tuple ds => match keysOf ds with
      | some k => some (.dt (setK kvs k v))
      | none => none
    | _ => none
  | .lst _ => none
def sizeD : Ob → Nat
  | .dk kvs => kvs.length
  | .dt kvs => kvs.length
  | .lst ws => ws.length
def isDict : Ob → Bool
  | .lst _ => false
  | _ => true
def liveAt (S : Store) : W → Option (Nat × Ob)
  | .obj n => match S[n]? with
    | some (some o) => some (n, o)
    | _ => none
  | _ => none
def datOf : W → Option PyData
  | .dat x => some x
  | _ => none
def isIn (x y : W) : M Bool := fun S =>
  match liveAt S y with
  | some (n, o) => match isDict o with
    | true => match datOf x with
      | some d => match askD (conv o d) d with
        | some r => .ok r.isSome (S.set n (some (conv o d)))
        | none => .stuck
      | none => .stuck
    | false => match view1 S x, view1 S y with
      | some d, some (.list ds) => if depthOk d = true ∧ depthOk (.list ds) = true then .ok (ds.any fun z => PyData.eqv z d) S else .stuck
      | _, _ => .stuck
  | none => match view1 S x, view1 S y with
    | some (.str a), some (.str b) => .ok (!(Builtin.Str.occurrences b a 0 b.length 1).isEmpty) S
    | some d, some (.list ds) => if depthOk d = true ∧ depthOk (.list ds) = true then .ok (ds.any fun z => PyData.eqv z d) S else .stuck
    | some d, some (.tuple ds) => if depthOk d = true ∧ depthOk (.tuple ds) = true then .ok (ds.any fun z => PyData.eqv z d) S else .stuck
    | _, _ => .stuck
def cmpOp (op : CmpOp) (x y : W) : M Bool := fun S =>
  match op with
  | .Eq => match view1 S x, view1 S y with
    | some a, some b => if depthOk a = true ∧ depthOk b = true then .ok (PyData.eqv a b) S else .stuck
    | _, _ => .stuck
  | .NotEq => match view1 S x, view1 S y with
    | some a, some b => if depthOk a = true ∧ depthOk b = true then .ok (!PyData.eqv a b) S else .stuck
    | _, _ => .stuck
  | .Lt => match asInt x, asInt y with
    | some i, some j => .ok (decide (i < j)) S
    | _, _ => .stuck
  | .LtE => match asInt x, asInt y with
    | some i, some j => .ok (decide (i ≤ j)) S
    | _, _ => .stuck
  | .Gt => match asInt x, asInt y with
    | some i, some j => .ok (decide (j < i)) S
    | _, _ => .stuck
  | .GtE => match asInt x, asInt y with
    | some i, some j => .ok (decide (j ≤ i)) S
    | _, _ => .stuck
  | .In => isIn x y S
  | .NotIn => bnd (isIn x y) (fun b => ret (!b)) S
  | .Is => match y with
    | .dat .none => match view1 S x with
      | some d => .ok (match d with | .none => true | _ => false) S
      | none => .stuck
    | _ => .stuck
  | .IsNot => match y with
    | .dat .none => match view1 S x with
      | some d => .ok (match d with | .none => false | _ => true) S
      | none => .stuck
    | _ => .stuck
def idxE (f : Str) (x : W) (args : List W) : M W := fun S =>
    if f = "index" then (match args with
      | [v] => match view1 S x, view1 S v with
        | some (.list ds), some d => if depthOk d = true ∧ depthOk (.list ds) = true then (match ds.findIdx? (fun z => PyData.eqv z d) with
          | some j => .ok (.dat (.int (j : Nat))) S
          | none => .stuck) else .stuck
        | _, _ => .stuck
      | _ => .stuck)
    else .stuck
/-- truth -/
def truth (w : W) : M Bool := fun S => match w with
  | .dat .none => .ok false S
  | .dat (.bool b) => .ok b S
  | .dat (.int i) => .ok (i != 0) S
  | .dat (.str x) => if roomy x.length = true then .ok ((x.length : Int) != 0) S else .stuck
  | w => match seqOf S w with
    | some (_, ws) => .ok (!ws.isEmpty) S
    | none => .stuck

/-! ### subscripts -/
def itemOf (x i : W) : M W := fun S =>
  match liveAt S x with
  | some (n, o) => match isDict o with
    | true => match datOf i with
      | some d => match askD (conv o d) d with
        | some (some v) => .ok v (S.set n (some (conv o d)))
        | _ => .stuck
      | none => .stuck
    | false => match asInt i, seqOf S x with
      | some k, some (_, ws) => match atI ws k with
        | some v => .ok v S
        | none => .stuck
      | _, _ => .stuck
  | none => match asInt i with
    | some k => match x with
      | .dat (.str z) => if roomy z.length = true then (match atI z.cps.toList k with
        | some c => .ok (.dat (.str ⟨#[c]⟩)) S
        | none => .stuck) else .stuck
      | x => match seqOf S x with
        | some (_, ws) => match atI ws k with
          | some v => .ok v S
          | none => .stuck
        | none => .stuck
    | none => .stuck
def cutW (xs : List W) (lo hi : Option Int) : List W := (xs.drop (HT.sIx xs.length 0 lo)).take (HT.sIx xs.length xs.length hi - HT.sIx xs.length 0 lo)
def sliceOf (live : Bool) (x : W) (lo hi : Option Int) : M W := fun S => match seqOf S x with
  | some (true, ws) => newList live (cutW ws lo hi) S
  | some (false, ws) => if HT.sIx ws.length 0 lo = 0 ∧ HT.sIx ws.length ws.length hi = ws.length then .stuck else match allDat (cutW ws lo hi) with
    | some ds => .ok (.dat (.tuple ds)) S
    | none => .stuck
  | none => .stuck
def setItem (x i v : W) : M Unit := fun S => match liveAt S x with
  | some (n, .lst ws) => match asInt i with
    | some k => match ixN ws.length k with
      | some j => match inside n v S with
        | .ok v S1 => match S1[n]? with
          | some (some (.lst _)) => .ok () (S1.set n (some (.lst (ws.set j v))))
          | _ => .stuck
        | _ => .stuck
      | none => .stuck
    | none => .stuck
  | some (n, o) => match datOf i with
    | some d => if roomy (sizeD o) = true then (match v with
      | .dat _ => (match putD (conv o d) d v with
        | some o' => .ok () (S.set n (some o'))
        | none => .stuck)
      | _ => .stuck) else .stuck
    | none => .stuck
  | none => .stuck

/-! ### the methods of lists and dicts -/
def method (x : W) (f : Str) (args : List W) : M W := fun S => match liveAt S x with
  | some (n, .lst ws) =>
    if f = "append" then (match args with
      | [v] => if roomy ws.length = true then (match v with
        | .dat _ => .ok (.dat .none) (S.set n (some (.lst (ws ++ [v]))))
        | v => match inside n v S with
          | .ok v S1 => match S1[n]? with
            | some (some (.lst _)) => .ok (.dat .none) (S1.set n (some (.lst (ws ++ [v]))))
            | _ => .stuck
          | _ => .stuck) else .stuck
      | _ => .stuck)
    else if f = "pop" then (match args with
      | [] => match ws[ws.length - 1]? with
        | some v => .ok v (S.set n (some (.lst ws.dropLast)))
        | none => .stuck
      | _ => .stuck)
    else idxE f x args S
  | some (n, o) =>
    if f = "setdefault" then (match args with
      | [.dat d, .dat v] => if roomy (sizeD o) = true then (match askD (conv o d) d with
        | some (some r) => .ok r (S.set n (some (conv o d)))
        | some none => (match putD (conv o d) d (.dat v) with
          | some o' => .ok (.dat v) (S.set n (some o'))
          | none => .stuck)
        | none => .stuck) else .stuck
      | _ => .stuck)
    else if f = "get" then (match args with
      | [.dat d] => (match askD (conv o d) d with
        | some r => .ok (r.getD (.dat .none)) (S.set n (some (conv o d)))
        | none => .stuck)
      | [.dat d, v] => (match askD (conv o d) d with
        | some r => .ok (r.getD v) (S.set n (some (conv o d)))
        | none => .stuck)
      | _ => .stuck)
    else .stuck
  | none => idxE f x args S
end Mp
end

section
set_option Elab.async false
set_option linter.all false
set_option maxRecDepth 100000
set_option maxHeartbeats 400000
set_option autoImplicit false
/-! Mp3: the interpreter's steps. -/
namespace Mp
open PySem L2

structure Def where
  name : Str
  params : List Str
  body : List Stmt
  scope : Scope
  N : List Str
  live : List (Nat × Nat)
inductive GV where
  | fn
  | blt
  | cst (x : PyData)
  | exc
/-- the module's names; which error is caught by which class -/
structure Glob where
  val : Str → Option GV
  sub : Str → Str → Option Bool
  /-- f is a def of just this one parameter -/
  kw : Str → Str → Bool
structure Cfg where
  G : Glob
  N : List Str
  sc : Scope
  live : List (Nat × Nat)
def Cfg.isLive (c : Cfg) (p : Pos) : Bool := c.live.any fun q => q.1 == p.line && q.2 == p.col

/-- how a statement ends -/
inductive Fl where
  | nx (g : Slots)
  | rt (w : W)
  | bk (g : Slots)
  | ct (g : Slots)
  | xc (x : Xc) (g : Slots)
/-- an expression within a statement -/
def bndE {α : Type} (g : Slots) (m : M α) (f : α → M Fl) : M Fl := fun S => match m S with
  | .ok a S' => f a S'
  | .exc x S' => .ok (.xc x g) S'
  | .stuck => .stuck

structure Orc where
  ev : Cfg → Slots → Expr → M W
  tst : Cfg → Slots → Expr → M Bool
  blk : Cfg → Slots → List Stmt → M Fl

def okName (x : Str) : Bool := !(x == ("__debug__" : Str)) && !(x == ("__classdict__" : Str)) && !(x == ("__name__" : Str))
def idx (N : List Str) (x : Str) : Option Nat := N.findIdx? fun y => decide (y = x)
/-- is the name of the def's own? -/
def ownName (c : Cfg) (x : Str) : Bool := match c.sc.names.lookup x with
  | some .local => true
  | some .cell => true
  | some .free => true
  | _ => false
def globName (c : Cfg) (x : Str) : Bool := match c.sc.names.lookup x with
  | some .globalImplicit => true
  | _ => false
def loadName (c : Cfg) (g : Slots) (x : Str) : M W := match okName x with
  | false => halt
  | true => match ownName c x with
    | true => match idx c.N x with
      | some i => match g[i]? with
        | some (some w) => ret w
        | _ => halt
      | none => halt
    | false => match globName c x with
      | true => match c.G.val x with
        | some (.cst d) => ret (mkC d)
        | _ => halt
      | false => halt
/-- where a name is stored -/
def storeAt (c : Cfg) (x : Str) : Option Nat := match c.sc.names.lookup x with
  | some .local => idx c.N x
  | some .cell => idx c.N x
  | _ => none

def evs (ev : Expr → M W) : List Expr → M (List W)
  | [] => ret []
  | e :: es => bnd (ev e) fun w => bnd (evs ev es) fun ws => ret (w :: ws)
def isStar : Expr → Bool
  | .Starred _ _ => true
  | _ => false
def isSlice : Expr → Bool
  | .Slice _ _ _ _ => true
  | _ => false
def isComp : Expr → Bool
  | .ListComp _ _ _ _ => true
  | .SetComp _ _ _ _ => true
  | .DictComp _ _ _ _ _ => true
  | _ => false
def isSet : Expr → Bool
  | .Set _ _ _ => true
  | _ => false
/-- a builtin's name -/
def isBlt (c : Cfg) (x : Str) : Bool := okName x && globName c x && (match c.G.val x with
  | some .blt => true
  | _ => false)
def isDef (c : Cfg) (x : Str) : Bool := okName x && globName c x && (match c.G.val x with
  | some .fn => true
  | _ => false)

/-! ### builtins by values -/
def typeName (S : Store) : W → Option String
  | .dat .none => some "NoneType"
  | .dat (.bool _) => some "bool"
  | .dat (.int _) => some "int"
  | .dat (.str _) => some "str"
  | .dat (.list _) => some "list"
  | .dat (.tuple _) => some "tuple"
  | .obj n => match S[n]? with
    | some (some (.lst _)) => some "list"
    | some (some (.dk _)) => some "dict"
    | some (some (.dt _)) => some "dict"
    | _ => none
  | _ => none
/-- isinstance(x, T) by the names of built-in classes -/
def isInst (t : String) (T : Str) : Option Bool :=
  if T = "int" then some (t == "int" || t == "bool") else if T = "bool" then some (t == "bool") else if T = "str" then some (t == "str")
  else if T = "list" then some (t == "list") else if T = "tuple" then some (t == "tuple") else if T = "dict" then some (t == "dict") else none
def classN (T : Str) : Bool := decide (T = "int") || decide (T = "bool") || decide (T = "str") || decide (T = "list") || decide (T = "tuple") || decide (T = "dict")
/-- the text of plain data, as repr gives it -/
def blt (live : Bool) (f : Str) (args : List W) : M W := fun S =>
  if f = "len" then (match args with
    | [x] => match x with
      | .dat (.str z) => if roomy z.length = true then .ok (.dat (.int (z.length : Nat))) S else .stuck
      | x => match seqOf S x with
        | some (_, ws) => .ok (.dat (.int (ws.length : Nat))) S
        | none => match liveAt S x with
          | some (_, o) => .ok (.dat (.int (sizeD o : Nat))) S
          | none => .stuck
    | _ => .stuck)
  else if f = "int" then (match args with
    | [.dat (.int i)] => .ok (.dat (.int i)) S
    | [.dat (.bool b)] => .ok (.dat (.int (if b then 1 else 0))) S
    | [.dat (.str z)] => match PySem.intText? z with
      | some i => if z.length ≤ 640 then .ok (.dat (.int i)) S else .stuck
      | none => .stuck
    | _ => .stuck)
  else if f = "abs" then (match args with
    | [.dat (.int i)] => .ok (.dat (.int (if i < 0 then -i else i))) S
    | _ => .stuck)
  else if f = "list" then (match args with
    | [x] => match seqOf S x with
      | some (_, ws) => newList live ws S
      | none => .stuck
    | _ => .stuck)
  else if f = "tuple" then (match args with
    | [x] => match seqOf S x with
      | some (false, _) => .ok x S
      | some (true, ws) => match allDat ws with
        | some ds => ret (.dat (.tuple ds)) S
        | none => .stuck
      | none => .stuck
    | _ => .stuck)
  else if f = "all" then (match args with
    | [x] => match seqOf S x with
      | some (true, ws) => match ws.mapM asBool with
        | some bs => .ok (.dat (.bool (bs.all id))) S
        | none => .stuck
      | _ => .stuck
    | _ => .stuck)
  else if f = "any" then (match args with
    | [x] => match seqOf S x with
      | some (true, ws) => match ws.mapM asBool with
        | some bs => .ok (.dat (.bool (bs.any id))) S
        | none => .stuck
      | _ => .stuck
    | _ => .stuck)
  else if f = "repr" then (match args with
    | [x] => match view1 S x with
      | some d => if d.showable = true ∧ depthOk d = true ∧ roomy d.shown.length = true then .ok (.dat (.str d.shown)) S else .stuck
      | none => .stuck
    | _ => .stuck)
  else .stuck

/-! ### what is walked -/
def rangeL (lo : Int) (n : Nat) : List W := (List.range n).map fun i => .dat (.int (lo + (i : Nat)))
def rgOk (i : Int) : Bool := decide (-(2 ^ 62) ≤ i) && decide (i < 2 ^ 62)
def enumL (i : Nat) : List PyData → List W
  | [] => []
  | x :: r => .dat (.tuple [.int (i : Nat), x]) :: enumL (i + 1) r
def zipL : List PyData → List PyData → List W
  | x :: r, y :: t => .dat (.tuple [x, y]) :: zipL r t
  | _, _ => []
def zip3L : List PyData → List PyData → List PyData → List W
  | x :: r, y :: t, z :: u => .dat (.tuple [x, y, z]) :: zip3L r t u
  | _, _, _ => []
def isTupT : Expr → Bool
  | .Tuple _ _ _ => true
  | _ => false
/-- data of a list that stands still (not live) -/
def stillList : W → Option (List PyData)
  | .dat (.list ds) => some ds
  | _ => none
/-- what is walked: these items, or a live list as it stands at each turn -/
inductive Wk where
  | list (ws : List W)
  | obj (n : Nat)
def walkV (w : W) : M Wk := fun S => match w with
  | .dat (.str x) => if roomy x.length = true then .ok (.list (x.cps.toList.map fun c => .dat (.str ⟨#[c]⟩))) S else .stuck
  | .obj n => match S[n]? with
    | some (some (.lst _)) => .ok (.obj n) S
    | _ => .stuck
  | w => match seqOf S w with
    | some (_, ws) => .ok (.list ws) S
    | none => .stuck
/-- the item of a turn -/
def nextW (r : Wk) (i : Nat) : M (Option W) := fun S => match r with
  | .list ws => .ok ws[i]? S
  | .obj n => match S[n]? with
    | some (some (.lst ws)) => .ok ws[i]? S
    | _ => .stuck
def walkFuel : Nat := 1000000
/-- how a thing is walked -/
inductive WK where
  | rng (a : Expr)
  | rng2 (a b : Expr)
  | enm (a : Expr)
  | zip (a b : Expr)
  | zip3 (a b d : Expr)
  | gen
  | bad
def walkK (c : Cfg) (tg e : Expr) : WK := match e with
  | .Call (.Name f _) [a] [] _ =>
    if f = "range" then (if isBlt c f = true ∧ isStar a = false then .rng a else .bad)
    else if f = "enumerate" then (if isBlt c f = true ∧ isStar a = false ∧ isTupT tg = true then .enm a else .bad)
    else .gen
  | .Call (.Name f _) [a, b] [] _ =>
    if f = "range" then (if isBlt c f = true ∧ isStar a = false ∧ isStar b = false then .rng2 a b else .bad)
    else if f = "zip" then (if isBlt c f = true ∧ isStar a = false ∧ isStar b = false ∧ isTupT tg = true then .zip a b else .bad)
    else .gen
  | .Call (.Name f _) [a, b, d] [] _ =>
    if f = "zip" then (if isBlt c f = true ∧ isStar a = false ∧ isStar b = false ∧ isStar d = false ∧ isTupT tg = true then .zip3 a b d else .bad)
    else .gen
  | .Set _ _ _ => .bad
  | _ => .gen
def rangeM (x : W) : M Wk := match x with
  | .dat (.int n) => if rgOk n = true then ret (.list (rangeL 0 n.toNat)) else halt
  | _ => halt
def range2M (x y : W) : M Wk := match x, y with
  | .dat (.int i), .dat (.int j) => if rgOk i = true ∧ rgOk j = true then ret (.list (rangeL i (j - i).toNat)) else halt
  | _, _ => halt
def enumM (x : W) : M Wk := match stillList x with
  | some ds => ret (.list (enumL 0 ds))
  | none => halt
def zipM (x y : W) : M Wk := match stillList x, stillList y with
  | some ds, some es => ret (.list (zipL ds es))
  | _, _ => halt
def zip3M (x y z : W) : M Wk := match stillList x, stillList y, stillList z with
  | some ds, some es, some fs => ret (.list (zip3L ds es fs))
  | _, _, _ => halt
def walkS (ev : Expr → M W) (c : Cfg) (tg : Expr) (e : Expr) : M Wk := match walkK c tg e with
  | .rng a => bnd (ev a) rangeM
  | .rng2 a b => bnd (ev a) fun x => bnd (ev b) fun y => range2M x y
  | .enm a => bnd (ev a) enumM
  | .zip a b => bnd (ev a) fun x => bnd (ev b) fun y => zipM x y
  | .zip3 a b d => bnd (ev a) fun x => bnd (ev b) fun y => bnd (ev d) fun z => zip3M x y z
  | .gen => bnd (ev e) walkV
  | .bad => halt

/-! ### targets -/
def asgNames (c : Cfg) : List Expr → List W → Slots → M Slots
  | [], [], g => ret g
  | .Name x _ :: es, w :: ws, g => match storeAt c x with
    | some i => asgNames c es ws (g.set i (some w))
    | none => halt
  | _, _, _ => halt
def asg (c : Cfg) (tg : Expr) (w : W) (g : Slots) : M Slots := match tg with
  | .Name x _ => match storeAt c x with
    | some i => ret (g.set i (some w))
    | none => halt
  | .Tuple es _ _ => fun S => match seqOf S w with
    | some (false, ws) => if es.length = ws.length then asgNames c es ws g S else .stuck
    | _ => .stuck
  | _ => halt

/-! ### comprehensions -/
def ownOf (N : List Str) (sc : Scope) : List (Str × Nat) := sc.names.filterMap fun p => match p.2 with
  | .local => (idx N p.1).map fun i => (p.1, i)
  | .cell => (idx N p.1).map fun i => (p.1, i)
  | _ => none
def wipeW (g : Slots) : List Nat → Slots
  | [] => g
  | i :: is => (wipeW g is).set i none
/-- within a comprehension nothing may be raised -/
def noX {α : Type} (m : M α) : M α := fun S => match m S with
  | .exc _ _ => .stuck
  | r => r
def compW (t : Slots → M Bool) (e : Slots → M W) (a : W → M Slots) (r : Wk) : Nat → Nat → List W → M (List W)
  | 0, _, _ => halt
  | n + 1, i, acc => bnd (nextW r i) fun o => match o with
    | none => ret acc
    | some w => bnd (a w) fun g => bnd (noX (t g)) fun k => match k with
      | true => bnd (noX (e g)) fun y => compW t e a r n (i + 1) (acc ++ [y])
      | false => compW t e a r n (i + 1) acc
def ifsM (ts : Slots → Expr → M Bool) : List Expr → Slots → M Bool
  | [] => fun _ => ret true
  | [t] => fun g => ts g t
  | _ => fun _ => halt
def comp (o : Orc) (c : Cfg) (g : Slots) (elt tg it : Expr) (ifs : List Expr) (scope : Scope) (pos : Pos) : M W :=
  match blkC c.N c.sc scope (ownOf c.N scope) with
  | true => bnd (walkS (o.ev c g) c tg it) fun r =>
      let c' : Cfg := { c with sc := scope }
      let g0 := wipeW g ((ownOf c.N scope).map (·.2))
      let tst : Slots → M Bool := ifsM (fun g e => o.tst c' g e) ifs
      bnd (compW tst (fun g => o.ev c' g elt) (fun w => asg c' tg w g0) r walkFuel 0 []) fun acc => newList (c.isLive pos) acc
  | false => halt

/-! ### expressions -/
def boolV (ev : Expr → M W) (op : BoolOp) : List Expr → M W
  | [] => halt
  | [e] => ev e
  | e :: r => bnd (ev e) fun x => bnd (truth x) fun k => match op, k with
    | .And, true => boolV ev op r
    | .And, false => ret x
    | .Or, true => ret x
    | .Or, false => boolV ev op r
def optI (ev : Expr → M W) : Option Expr → M (Option Int)
  | none => ret none
  | some e => bnd (ev e) fun w => match asInt w with
    | some i => ret (some i)
    | none => halt
def noStars (es : List Expr) : Bool := es.all fun e => !isStar e
def fewArgs (es : List Expr) : Bool := decide (es.length < 20)
def lineOk (a c : Pos) : Bool := a.endLine == c.line
/-- the base of a method's call is no call of super -/
def plainBase : Expr → Bool
  | .Call _ _ _ _ => false
  | _ => true
def tyNm : Expr → Option Str
  | .Name t _ => some t
  | _ => none

/-- the kind of a method's receiver -/
def mKind (f : Str) : Option Bool :=
  if f = "append" then some true else if f = "pop" then some true else if f = "index" then some true
  else if f = "setdefault" then some false else if f = "get" then some false else none
def recv (f : Str) (x : W) : M Unit := fun S => match mKind f with
  | some true => match seqOf S x with
    | some (true, _) => .ok () S
    | _ => .stuck
  | some false => match liveAt S x with
    | some (_, o) => if isDict o = true then .ok () S else .stuck
    | none => .stuck
  | none => .stuck
/-- {k: v} -/
def dispE (ev : Expr → M W) (k v : Expr) : M W := bnd (alloc (.dk [])) fun p => bnd (ev k) fun x => bnd (ev v) fun y => match p, x with
  | .obj n, .dat d => match keyOf d with
    | some key => bnd (inside n y) fun y => fun S => match S[n]? with
      | some (some (.dk [])) => .ok (.obj n) (S.set n (some (.dk [(key, y)])))
      | _ => .stuck
    | none => halt
  | _, _ => halt
/-- list(range(n)) -/
def listRg (live : Bool) (x : W) : M W := match x with
  | .dat (.int n) => if roomy n.toNat = true ∧ rgOk n = true then newList live (rangeL 0 n.toNat) else halt
  | _ => halt
def asInts : List W → Option (List Int)
  | [] => some []
  | w :: ws => match asInt w, asInts ws with
    | some i, some is => some (i :: is)
    | _, _ => none
/-- so many different ints -/
def kindsOf (ns : List Int) : Nat := (PyProof.Rows.firstMet (fun i => ns.getD i 0) ns.length).length
/-- len(set(x)) -/
def lenSet (x : W) : M W := fun S => match seqOf S x with
  | some (true, ws) => match asInts ws with
    | some ns => if ns.length ≤ 4000 then .ok (.dat (.int (kindsOf ns : Nat))) S else .stuck
    | none => .stuck
  | _ => .stuck
/-- x[::-1] -/
def turned (live : Bool) (x : W) : M W := fun S => match seqOf S x with
  | some (true, ws) => newList live ws.reverse S
  | _ => .stuck
/-- a builtin of a builtin -/
def pairE (ev : Expr → M W) (c : Cfg) (live : Bool) (f : Str) (args : List Expr) : Option (M W) := match args with
  | [.Call (.Name h _) [a] [] _] =>
    if f = "list" ∧ h = "range" then some (if isBlt c "list" = true ∧ isBlt c "range" = true ∧ isStar a = false then bnd (ev a) (listRg live) else halt)
    else if f = "len" ∧ h = "set" then some (if isBlt c "len" = true ∧ isBlt c "set" = true ∧ isStar a = false then bnd (ev a) lenSet else halt)
    else none
  | _ => none
def knownB (f : Str) : Bool := decide (f = "len") || decide (f = "int") || decide (f = "abs") || decide (f = "list") || decide (f = "tuple") || decide (f = "all") || decide (f = "any") || decide (f = "repr")
/-- isinstance(a, T) -/
def isiE (ev : Expr → M W) (c : Cfg) : List Expr → M W
  | [a, .Name t _] => match isBlt c t && classN t with
    | true => bnd (ev a) fun x => fun S => match typeName S x with
      | some n => match isInst n t with
        | some b => .ok (.dat (.bool b)) S
        | none => .stuck
      | none => .stuck
    | false => halt
  | _ => halt
/-- f(a, ..) -/
def callE (call : Str → List W → M W) (ev : Expr → M W) (c : Cfg) (live : Bool) (f : Str) : List Expr → M W
  | [] => halt
  | a :: as => match noStars (a :: as) with
    | false => halt
    | true => match isDef c f with
      | true => bnd (evs ev (a :: as)) fun ws => call f ws
      | false => match isBlt c f with
        | true => if f = "isinstance" then isiE ev c (a :: as) else (match knownB f with
          | true => bnd (evs ev (a :: as)) fun ws => blt live f ws
          | false => halt)
        | false => halt
/-- a method's name with so many arguments -/
def methN (f : Str) (n : Nat) : Bool := decide (f = "append" ∧ n = 1) || decide (f = "pop" ∧ n = 0) || decide (f = "index" ∧ n = 1) || decide (f = "setdefault" ∧ n = 2) || decide (f = "get" ∧ (n = 1 ∨ n = 2))
def unE (op : UnaryOp) (m : M W) : M W := match op with
  | .USub => bnd m fun x => match asInt x with
    | some i => ret (.dat (.int (-i)))
    | none => halt
  | .Not => bnd m fun x => bnd (truth x) fun k => ret (.dat (.bool (!k)))
  | _ => halt
def cmpE (ev : Expr → M W) (a : Expr) (ops : List CmpOp) (es : List Expr) : M W := match ops, es with
  | [op], [b] => match isSet b with
    | true => halt
    | false => bnd (ev a) fun x => bnd (ev b) fun y => bnd (cmpOp op x y) fun k => ret (.dat (.bool k))
  | [op, op'], [b, d] => match isSet d with
    | true => halt
    | false => bnd (ev a) fun x => bnd (ev b) fun y => bnd (cmpOp op x y) fun k => match k with
      | true => bnd (ev d) fun z => bnd (cmpOp op' y z) fun k => ret (.dat (.bool k))
      | false => ret (.dat (.bool false))
  | _, _ => halt
/-- -1 -/
def isM1 : Expr → Bool
  | .UnaryOp .USub (.Constant (.int i) _ _) _ => decide (i = 1)
  | _ => false
def subE (ev : Expr → M W) (live : Bool) (a i : Expr) : M W := match i with
  | .Slice lo hi st _ => match st with
    | none => bnd (ev a) fun x => bnd (optI ev lo) fun l => bnd (optI ev hi) fun h => sliceOf live x l h
    | some s => match lo, hi, isM1 s with
      | none, none, true => bnd (ev a) fun x => turned live x
      | _, _, _ => halt
  | i => bnd (ev a) fun x => bnd (ev i) fun y => itemOf x y
def lcE (o : Orc) (c : Cfg) (g : Slots) (elt : Expr) (gs : List Comprehension) (scope : Scope) (pos : Pos) : M W := match gs with
  | [⟨tg, it, ifs, k⟩] => match decide (k = 0) with
    | true => comp o c g elt tg it ifs scope pos
    | false => halt
  | _ => halt
def dictE (ev : Expr → M W) (ks : List (Option Expr)) (vs : List Expr) : M W := match ks, vs with
  | [], [] => alloc (.dk [])
  | [some k], [v] => dispE ev k v
  | _, _ => halt
def kwE (call : Str → List W → M W) (ev : Expr → M W) (c : Cfg) (f : Str) (args : List Expr) (kw : Keyword) : M W := match args, kw with
  | [], ⟨some x, e, _⟩ => match isDef c f && c.G.kw f x with
    | true => bnd (ev e) fun w => call f [w]
    | false => halt
  | _, _ => halt
def methE (ev : Expr → M W) (b : Expr) (m : Str) (apos cpos : Pos) (args : List Expr) : M W := match noStars args && methN m args.length && lineOk apos cpos && plainBase b with
  | true => bnd (ev b) fun x => bnd (recv m x) fun _ => bnd (evs ev args) fun ws => method x m ws
  | false => halt
def callG (call : Str → List W → M W) (ev : Expr → M W) (c : Cfg) (f : Expr) (args : List Expr) (kws : List Keyword) (pos : Pos) : M W := match f with
  | .Name f _ => match kws with
    | [] => match pairE ev c (c.isLive pos) f args with
      | some m => m
      | none => callE call ev c (c.isLive pos) f args
    | [kw] => kwE call ev c f args kw
    | _ => halt
  | .Attribute b m apos => match kws with
    | [] => methE ev b m apos pos args
    | _ => halt
  | _ => halt
def evStep (call : Str → List W → M W) (o : Orc) (c : Cfg) (g : Slots) (e : Expr) : M W := match e with
  | .Constant v _ _ => match v with
    | .none => ret (.dat .none)
    | .bool b => ret (.dat (.bool b))
    | .int i => ret (.dat (.int i))
    | .str x => ret (.dat (.str x))
    | _ => halt
  | .Name x _ => loadName c g x
  | .Tuple es _ _ => match noStars es with
    | true => bnd (evs (o.ev c g) es) fun ws => bnd (gives ws) fun xs => if roomy xs.length = true then ret (.dat (.tuple xs)) else halt
    | false => halt
  | .List es pos => match noStars es with
    | true => bnd (evs (o.ev c g) es) fun ws => if roomy ws.length = true then newList (c.isLive pos) ws else halt
    | false => halt
  | .BinOp a op b pos => bnd (o.ev c g a) fun x => bnd (o.ev c g b) fun y => binOp (c.isLive pos) op x y
  | .UnaryOp op a _ => unE op (o.ev c g a)
  | .BoolOp op es _ => boolV (o.ev c g) op es
  | .Compare a ops es _ => cmpE (o.ev c g) a ops es
  | .IfExp t a b _ => bnd (o.tst c g t) fun k => match k with
    | true => o.ev c g a
    | false => o.ev c g b
  | .Subscript a i pos => subE (o.ev c g) (c.isLive pos) a i
  | .ListComp elt gs scope pos => lcE o c g elt gs scope pos
  | .Dict ks vs _ => dictE (o.ev c g) ks vs
  | .Call f args kws pos => callG call (o.ev c g) c f args kws pos
  | _ => halt

def andT (t : Expr → M Bool) : List Expr → M Bool
  | [] => halt
  | [e] => t e
  | e :: r => bnd (t e) fun k => match k with
    | true => andT t r
    | false => ret false
def orT (t : Expr → M Bool) : List Expr → M Bool
  | [] => halt
  | [e] => t e
  | e :: r => bnd (t e) fun k => match k with
    | true => ret true
    | false => orT t r
def tstStep (ev1 : Expr → M W) (o : Orc) (c : Cfg) (g : Slots) (e : Expr) : M Bool := match e with
  | .BoolOp op es _ => match op with
    | .And => andT (o.tst c g) es
    | .Or => orT (o.tst c g) es
  | .UnaryOp op a _ => match op with
    | .Not => bnd (o.tst c g a) fun k => ret (!k)
    | _ => halt
  | .Compare _ _ _ _ => bnd (ev1 e) fun x => match asBool x with
    | some b => ret b
    | none => halt
  | .Constant v _ _ => bnd (ev1 e) truth
  | .Name _ _ => bnd (ev1 e) truth
  | .Call _ _ _ _ => bnd (ev1 e) truth
  | .Subscript _ _ _ => bnd (ev1 e) truth
  | .BinOp _ _ _ _ => bnd (ev1 e) truth
  | _ => halt

/-! ### statements -/
def whileL (t : Slots → M Bool) (b : Slots → M Fl) : Nat → Slots → M Fl
  | 0, _ => halt
  | n + 1, g => bndE g (t g) fun k => match k with
    | true => bnd (b g) fun f => match f with
      | .nx g' => whileL t b n g'
      | .ct g' => whileL t b n g'
      | .bk g' => ret (.nx g')
      | .rt w => ret (.rt w)
      | .xc x g' => ret (.xc x g')
    | false => ret (.nx g)
def forW (a : W → Slots → M Slots) (b : Slots → M Fl) (r : Wk) : Nat → Nat → Slots → M Fl
  | 0, _, _ => halt
  | n + 1, i, g => bnd (nextW r i) fun o => match o with
    | none => ret (.nx g)
    | some w => bnd (a w g) fun g1 => bnd (b g1) fun f => match f with
      | .nx g' => forW a b r n (i + 1) g'
      | .ct g' => forW a b r n (i + 1) g'
      | .bk g' => ret (.nx g')
      | .rt w => ret (.rt w)
      | .xc x g' => ret (.xc x g')
def whileFuel : Nat := 1000000
/-- the statements of an except suite -/
def suiteSt (c : Cfg) : List Stmt → Slots → Option Fl
  | [], g => some (.nx g)
  | .Assign [.Name x _] (.Constant v _ _) _ :: r, g => match storeAt c x with
    | some i => match v with
      | .none => suiteSt c r (g.set i (some (.dat .none)))
      | .bool b => suiteSt c r (g.set i (some (.dat (.bool b))))
      | .int z => suiteSt c r (g.set i (some (.dat (.int z))))
      | _ => none
    | none => none
  | .Return (some (.Constant v _ _)) _ :: _, _ => match v with
    | .none => some (.rt (.dat .none))
    | .bool b => some (.rt (.dat (.bool b)))
    | _ => none
  | .Pass _ :: r, g => suiteSt c r g
  | _, _ => none
/-- a comprehension laid into a name -/
def lcOk (c : Cfg) (x : Str) (px : Pos) : Expr → Bool
  | .ListComp _ _ scope pos => decide (c.sc.names.lookup x ≠ some .local) || ((px.line == pos.line) && !(scope.names.any fun (n, k) => n == x && (k == .local || k == .cell)))
  | .SetComp _ _ _ _ => false
  | .DictComp _ _ _ _ _ => false
  | _ => true
/-- no pair that is stored from the right -/
def noSwap : Expr → Bool
  | .Tuple _ _ _ => false
  | .ListComp _ _ _ _ => false
  | .SetComp _ _ _ _ => false
  | .DictComp _ _ _ _ _ => false
  | _ => true
def asgS (o : Orc) (c : Cfg) (g : Slots) (tg e : Expr) : M Fl := match tg with
  | .Name x px => match storeAt c x with
    | some i => match lcOk c x px e with
      | true => bndE g (o.ev c g e) fun w => ret (.nx (g.set i (some w)))
      | false => halt
    | none => halt
  | .Tuple ts j p => match noSwap e with
    | true => bndE g (o.ev c g e) fun w => bndE g (asg c (.Tuple ts j p) w g) fun g' => ret (.nx g')
    | false => halt
  | .Subscript a i _ => match isSlice i || isComp e with
    | true => halt
    | false => bndE g (o.ev c g e) fun v => bndE g (o.ev c g a) fun x => bndE g (o.ev c g i) fun y => bndE g (setItem x y v) fun _ => ret (.nx g)
  | _ => halt
def augW (op : Operator) (g : Slots) (i : Nat) (x w : W) : M Fl := match asInt x, asInt w with
  | some a, some b => match op with
    | .Add => ret (.nx (g.set i (some (.dat (.int (a + b))))))
    | .Sub => ret (.nx (g.set i (some (.dat (.int (a - b))))))
    | _ => halt
  | _, _ => halt
def augS (o : Orc) (c : Cfg) (g : Slots) (x : Str) (op : Operator) (e : Expr) : M Fl := match storeAt c x with
  | some i => match g[i]? with
    | some (some v) => bndE g (o.ev c g e) fun w => augW op g i v w
    | _ => halt
  | none => halt
def augOp : Operator → Bool
  | .Add => true
  | .Sub => true
  | _ => false
def excName (c : Cfg) (x : Str) : Bool := okName x && globName c x && (match c.G.val x with
  | some .exc => true
  | _ => false)
def exprS (o : Orc) (c : Cfg) (g : Slots) (e : Expr) : M Fl := match isComp e with
  | true => halt
  | false => bndE g (o.ev c g e) fun _ => ret (.nx g)
def tryEnd (c : Cfg) (x : Str) (ss : List Stmt) (f : Fl) : M Fl := match f with
  | .xc e g' => match c.G.sub e.cls x with
    | some true => ofO (suiteSt c ss g')
    | some false => ret (.xc e g')
    | none => halt
  | f => ret f
def raiseS (c : Cfg) (g : Slots) (e : Expr) : M Fl := match e with
  | .Call (.Name x _) args kws _ => match args, kws with
    | [.Constant v _ _], [] => match v with
      | .str _ => match excName c x with
        | true => ret (.xc ⟨x, none⟩ g)
        | false => halt
      | _ => halt
    | _, _ => halt
  | _ => halt
def tryS (o : Orc) (c : Cfg) (g : Slots) (b : List Stmt) (h : ExceptHandler) : M Fl := match h with
  | .ExceptHandler (some (.Name x _)) none (s0 :: ss) _ => match excName c x with
    | true => bnd (o.blk c g b) (tryEnd c x (s0 :: ss))
    | false => halt
  | _ => halt
def stStep (o : Orc) (c : Cfg) (g : Slots) (st : Stmt) : M Fl := match st with
  | .Expr e _ => exprS o c g e
  | .Assign tgs e _ => match tgs with
    | [tg] => asgS o c g tg e
    | _ => halt
  | .AugAssign tg op e _ => match tg with
    | .Name x _ => match augOp op with
      | true => augS o c g x op e
      | false => halt
    | _ => halt
  | .If t a b _ => bndE g (o.tst c g t) fun k => match k with
    | true => o.blk c g a
    | false => o.blk c g b
  | .While t b e _ => match e with
    | [] => whileL (fun g => o.tst c g t) (fun g => o.blk c g b) whileFuel g
    | _ => halt
  | .For tg it b e _ => match e, isSet it with
    | [], false => bndE g (walkS (o.ev c g) c tg it) fun r => forW (fun w g => asg c tg w g) (fun g => o.blk c g b) r walkFuel 0 g
    | _, _ => halt
  | .Return v _ => match v with
    | some e => bndE g (o.ev c g e) fun w => ret (.rt w)
    | none => ret (.rt (.dat .none))
  | .Raise e c' _ => match e, c' with
    | some e, none => raiseS c g e
    | _, _ => halt
  | .Try b hs e f _ => match hs, e, f with
    | [h], [], [] => tryS o c g b h
    | _, _, _ => halt
  | .Pass _ => ret (.nx g)
  | .Break _ => ret (.bk g)
  | .Continue _ => ret (.ct g)
  | _ => halt
def blkStep (st : Slots → Stmt → M Fl) : List Stmt → Slots → M Fl
  | [], g => ret (.nx g)
  | s :: ss, g => bnd (st g s) fun f => match f with
    | .nx g' => blkStep st ss g'
    | f => ret f

def stuckO : Orc := ⟨fun _ _ _ => halt, fun _ _ _ => halt, fun _ _ _ => halt⟩
def step (call : Str → List W → M W) (o : Orc) : Orc where
  ev := fun c g e => evStep call o c g e
  tst := fun c g e => tstStep (evStep call o c g) o c g e
  blk := fun c g ss => blkStep (fun g s => stStep o c g s) ss g
/-- so deep -/
def run (call : Str → List W → M W) : Nat → Orc
  | 0 => stuckO
  | n + 1 => step call (run call n)

/-! ### calls -/
def finish (k : Nat) (r : Res Fl) : Res W := match r with
  | .ok f S => match f with
    | .nx _ => .ok (.dat .none) (S.take k)
    | .rt w => match w with
      | .dat x => .ok (.dat x) (S.take k)
      | .con x => .ok (.con x) (S.take k)
      | .obj n => match decide (n < k) with
        | true => .ok (.obj n) (S.take k)
        | false => match S[n]? with
          | some (some (.lst ws)) => match allDat ws with
            | some ds => .ok (.dat (.list ds)) (S.take k)
            | none => .stuck
          | _ => .stuck
    | .xc x _ => .exc x (S.take k)
    | _ => .stuck
  | _ => .stuck
def deep : Nat := 60
def callD (G : Glob) (call : Str → List W → M W) (d : Def) (args : List W) : M W := fun S =>
  match decide (args.length = d.params.length) with
  | true => finish S.length ((run call deep).blk ⟨G, d.N, d.scope, d.live⟩ (args.map some ++ List.replicate (d.N.length - args.length) none) d.body S)
  | false => .stuck
/-- the whole program: its defs, so many calls within one another -/
def calls (G : Glob) (ds : List Def) : Nat → Str → List W → M W
  | 0, _, _ => halt
  | n + 1, f, args => match ds.find? fun d => decide (d.name = f) with
    | some d => callD G (calls G ds n) d args
    | none => halt
end Mp
end

section
set_option Elab.async false
set_option linter.all false
set_option maxRecDepth 100000
set_option maxHeartbeats 400000
set_option autoImplicit false
/-! Mp4: soundness, the values. -/
namespace Mp
open PySem L2

/-- what is wanted behind a step that came to r from (m, S, H) -/
def Post (K : PySem.W.Frag) (mg : Str → Option Value) (Xx : Addr → Prop) {α β : Type} (R : List Addr → Store → Hp → α → β → Prop) (m : List Addr) (S : Store) (H : Hp) (r : Res α) (Q : β → Hp → Prop) (E : XK) : Prop := match r with
  | .ok w S' => ∀ v H' m', Sim K Xx m' S' H' → Pv m S H m' S' H' → R m' S' H' w v → Q v H'
  | .exc x S' => ∀ C d H' m', Sim K Xx m' S' H' → Pv m S H m' S' H' → mg x.cls = some (.ref C) → x.arg = none → d = none → E (.ref C) d H'
  | .stuck => False
section
variable {K : PySem.W.Frag} {mg : Str → Option Value} {Xx : Addr → Prop} {α β γ δ : Type} {R : List Addr → Store → Hp → α → β → Prop} {R' : List Addr → Store → Hp → γ → δ → Prop} {m m' m1 : List Addr} {S S' S1 : Store} {H H' H1 : Hp}
theorem Post.mono {r : Res α} {Q Q' : β → Hp → Prop} {E : XK} (p : Post K mg Xx R m S H r Q E) (h : ∀ v H', Q v H' → Q' v H') : Post K mg Xx R m S H r Q' E := by
  cases r with
  | ok w S' => exact fun v H' m' s pv rw => h v H' (p v H' m' s pv rw)
  | exc x S' => exact p
  | stuck => exact p
theorem Post.from {r : Res α} {Q : β → Hp → Prop} {E : XK} (p : Post K mg Xx R m S H r Q E) (pv : Pv m S H m1 S1 H1) : Post K mg Xx R m1 S1 H1 r Q E := by
  cases r with
  | ok w S' => exact fun v H' m' s pv' rw => p v H' m' s (pv.trans pv') rw
  | exc x S' => exact fun C d H' m' s pv' => p C d H' m' s (pv.trans pv')
  | stuck => exact p
/-- a step, then another one -/
theorem Post.bnd {f : M α} {k : α → M γ} {Q : δ → Hp → Prop} {E : XK} (p : Post K mg Xx R' m S H (bnd f k S) Q E) :
    Post K mg Xx R m S H (f S) (fun y H1 => ∃ a S1 m1, Sim K Xx m1 S1 H1 ∧ Pv m S H m1 S1 H1 ∧ R m1 S1 H1 a y ∧ Post K mg Xx R' m1 S1 H1 (k a S1) Q E) E := by
  unfold Mp.bnd at p
  cases e : f S with
  | ok a S1 =>
    rw [e] at p
    exact fun y H1 m1 s pv r => ⟨a, S1, m1, s, pv, r, p.from pv⟩
  | exc x S' =>
    rw [e] at p
    exact p
  | stuck =>
    rw [e] at p
    exact p
theorem Post.ret {a : α} {v : β} {Q : β → Hp → Prop} {E : XK} (p : Post K mg Xx R m S H (ret a S) Q E) (s : Sim K Xx m S H) (r : R m S H a v) : Q v H := p v H m s Pv.refl r
theorem Post.ok {a : α} {v : β} {Q : β → Hp → Prop} {E : XK} (p : Post K mg Xx R m S H (.ok a S') Q E) (s : Sim K Xx m' S' H') (pv : Pv m S H m' S' H') (r : R m' S' H' a v) : Q v H' := p v H' m' s pv r
theorem Post.halt {Q : β → Hp → Prop} {E : XK} (p : Post K mg Xx R m S H (Mp.halt S) Q E) : False := p
end

section
variable {K : PySem.W.Frag} {mg : Str → Option Value} {Xx : Addr → Prop} {m m' : List Addr} {S S' : Store} {H H' : Hp}
abbrev LX (Xx : Addr → Prop) (m : List Addr) (S : Store) : Addr → Prop := fun a => Live m S a ∨ Xx a
theorem Rps.to_ws {L : Addr → Prop} : ∀ {ds : List PyData} {vs : List V}, Rps (LX Xx m S) H ds vs → Rws K Xx m S H (ds.map .dat) vs
  | [], vs, r => by unfold Rps at r; subst r; exact .nil
  | d :: ds, vs, r => by
    unfold Rps at r
    obtain ⟨v, t, e, r1, r2⟩ := r
    subst e
    exact .cons r1 (Rps.to_ws (L := L) r2)
theorem rk_mkC {d : PyData} {v : V} (r : Rk K d v) : Rw K Xx m S H (mkC d) v := by
  cases d with
  | list ds => exact r
  | tuple ds => exact r
  | dict ds => exact r
  | none => unfold Rk at r; show Rp _ _ _ _; unfold Rp; exact r
  | bool b => unfold Rk at r; show Rp _ _ _ _; unfold Rp; exact r
  | int i => unfold Rk at r; show Rp _ _ _ _; unfold Rp; exact r
  | str x => unfold Rk at r; show Rp _ _ _ _; unfold Rp; exact r
theorem rks_mkC : ∀ {ds : List PyData} {vs : List V}, Rks K ds vs → Rws K Xx m S H (ds.map mkC) vs
  | [], vs, r => by unfold Rks at r; subst r; exact .nil
  | d :: ds, vs, r => by
    unfold Rks at r
    obtain ⟨v, t, e, r1, r2⟩ := r
    subst e
    exact .cons (rk_mkC r1) (rks_mkC r2)
theorem allDat_ok : ∀ {ws : List W} {ds : List PyData} {vs : List V}, allDat ws = some ds → Rws K Xx m S H ws vs → Rps (LX Xx m S) H ds vs
  | [], ds, vs, e, r => by
    cases e
    cases r
    unfold Rps
    rfl
  | .dat x :: ws, ds, vs, e, r => by
    unfold allDat at e
    cases q : allDat ws with
    | none => rw [q] at e; cases e
    | some t =>
      rw [q] at e
      cases e
      cases r with
      | cons r1 r2 =>
        unfold Rps
        exact ⟨_, _, rfl, r1, allDat_ok q r2⟩
  | .con x :: ws, ds, vs, e, r => by cases e
  | .obj n :: ws, ds, vs, e, r => by cases e
theorem allDat_map : ∀ {ws : List W} {ds : List PyData}, allDat ws = some ds → ws = ds.map .dat
  | [], ds, e => by cases e; rfl
  | .dat x :: ws, ds, e => by
    unfold allDat at e
    cases q : allDat ws with
    | none => rw [q] at e; cases e
    | some t =>
      rw [q] at e
      cases e
      rw [List.map_cons, allDat_map q]
  | .con x :: ws, ds, e => by cases e
  | .obj n :: ws, ds, e => by cases e
/-- a list's | a tuple's items -/
theorem seqOf_ok (s : Sim K Xx m S H) {w : W} {v : V} {b : Bool} {ws : List W} (r : Rw K Xx m S H w v) (e : seqOf S w = some (b, ws)) :
    ∃ a vs, v = .ref a ∧ (b = true → SqL K H a vs) ∧ (b = false → SqT K H a vs) ∧ Rws K Xx m S H ws vs := by
  unfold seqOf at e
  split at e
  · cases e
    have r : Rp _ _ _ _ := r
    unfold Rp at r
    obtain ⟨a, vs, ev, rd, _, rs⟩ := r
    exact ⟨a, vs, ev, fun _ => .inl rd, fun z => Bool.noConfusion z, Rps.to_ws (L := fun _ => True) rs⟩
  · cases e
    have r : Rp _ _ _ _ := r
    unfold Rp at r
    obtain ⟨a, vs, ev, rd, _, rs⟩ := r
    exact ⟨a, vs, ev, fun z => Bool.noConfusion z, fun _ => .inl (.inl rd), Rps.to_ws (L := fun _ => True) rs⟩
  · cases e
    have r : Rk _ _ _ := r
    unfold Rk at r
    obtain ⟨a, vs, ev, rd, rs⟩ := r
    exact ⟨a, vs, ev, fun _ => rd H, fun z => Bool.noConfusion z, rks_mkC rs⟩
  · cases e
    have r : Rk _ _ _ := r
    unfold Rk at r
    obtain ⟨a, vs, ev, rd, rs⟩ := r
    exact ⟨a, vs, ev, fun z => Bool.noConfusion z, fun _ => rd H, rks_mkC rs⟩
  · split at e
    · rename_i n ws' he
      cases e
      obtain ⟨a, ea, ev⟩ := (show ∃ a, _ from r)
      obtain ⟨a', ho, e1, e2, ro⟩ := s.ob _ _ he
      rw [ea] at e1; cases e1
      cases ro with
      | lst rs => exact ⟨a, _, ev, fun _ => SqL.of e2, fun z => Bool.noConfusion z, rs⟩
    · cases e
  · cases e
/-- a value looked at -/
theorem view1_ok (s : Sim K Xx m S H) {w : W} {v : V} {d : PyData} (r : Rw K Xx m S H w v) (e : view1 S w = some d) : Dp K H v d := by
  unfold view1 at e
  split at e
  · cases e; exact Rp.dp _ _ r
  · cases e; exact Rk.dp _ _ r
  · split at e
    · rename_i n ws' he
      obtain ⟨a, ea, ev⟩ := (show ∃ a, _ from r)
      obtain ⟨a', ho, e1, e2, ro⟩ := s.ob _ _ he
      rw [ea] at e1; cases e1
      cases ro with
      | lst rs =>
        cases q : allDat ws' with
        | none => rw [q] at e; cases e
        | some ds =>
          rw [q] at e
          cases e
          subst ev
          exact .lst (SqL.of e2) (Rps.dp _ _ (allDat_ok q rs))
    · cases e
theorem liveAt_ok (s : Sim K Xx m S H) {w : W} {v : V} {n : Nat} {o : Ob} (r : Rw K Xx m S H w v) (e : liveAt S w = some (n, o)) :
    ∃ a ho, v = .ref a ∧ w = .obj n ∧ S[n]? = some (some o) ∧ m[n]? = some a ∧ H a = some ho ∧ Ro K Xx m S H o ho := by
  unfold liveAt at e
  split at e
  · split at e
    · rename_i n' o' he
      cases e
      obtain ⟨a, ea, ev⟩ := (show ∃ a, _ from r)
      obtain ⟨a', ho, e1, e2, ro⟩ := s.ob _ _ he
      rw [ea] at e1; cases e1
      exact ⟨a, ho, ev, rfl, he, ea, e2, ro⟩
    · cases e
  · cases e
/-- a value given away -/
theorem give_ok (s : Sim K Xx m S H) {w : W} {v : V} {x : PyData} (r : Rw K Xx m S H w v) (e : give w S = .ok x S') :
    Sim K Xx m S' H ∧ Pv m S H m S' H ∧ Rp (LX Xx m S') H x v := by
  cases w with
  | dat y =>
    cases e
    exact ⟨s, Pv.refl, r⟩
  | con y => cases e
  | obj n =>
    unfold give at e
    dsimp only at e
    split at e
    · rename_i ws he
      split at e
      · rename_i ds hd
        cases e
        obtain ⟨a, ea, ev⟩ := (show ∃ a, _ from r)
        obtain ⟨a', ho, e1, e2, ro⟩ := s.ob _ _ he
        rw [ea] at e1; cases e1
        cases ro with
        | lst rs =>
          refine ⟨s.kill n, Pv.kill, ?_⟩
          unfold Rp
          refine ⟨a, _, ev, .inl e2, ?_, allDat_ok (ws := ws) hd (Rws.mono Pv.kill rs)⟩
          rintro (l | x)
          · exact s.killed he ea l
          · exact (s.ext a x).2 ⟨n, _, he, ea⟩
      · cases e
    · cases e
theorem give_res {w : W} : (∃ x S', give w S = .ok x S') ∨ give w S = .stuck := by
  cases w with
  | dat y => exact .inl ⟨_, _, rfl⟩
  | con y => exact .inr rfl
  | obj n =>
    unfold give
    dsimp only
    split
    · split
      · exact .inl ⟨_, _, rfl⟩
      · exact .inr rfl
    · exact .inr rfl
theorem gives_ok : ∀ {ws : List W} {vs : List V} {S S' : Store} {xs : List PyData}, Sim K Xx m S H → Rws K Xx m S H ws vs → gives ws S = .ok xs S' → Sim K Xx m S' H ∧ Pv m S H m S' H ∧ Rps (LX Xx m S') H xs vs
  | [], vs, S, S', xs, s, r, e => by
    cases e
    cases r
    refine ⟨s, Pv.refl, ?_⟩
    unfold Rps
    rfl
  | w :: ws, vs, S, S', xs, s, r, e => by
    cases r with
    | cons r1 r2 =>
      unfold gives at e
      unfold Mp.bnd at e
      rcases give_res (w := w) (S := S) with ⟨x, S1, q⟩ | q
      · rw [q] at e
        obtain ⟨s1, p1, q1⟩ := give_ok s r1 q
        dsimp only at e
        cases q2 : gives ws S1 with
        | ok ys S2 =>
          rw [q2] at e
          cases e
          obtain ⟨s2, p2, r3⟩ := gives_ok s1 (Rws.mono p1 r2) q2
          refine ⟨s2, p1.trans p2, ?_⟩
          unfold Rps
          exact ⟨_, _, rfl, Rp.mono (fun a u n h => ⟨h, fun l => l.elim (p2.stay a u (fun z => n (.inl z)) h).2 fun x => n (.inr x)⟩) _ _ q1, r3⟩
        | exc y S2 => rw [q2] at e; cases e
        | stuck => rw [q2] at e; cases e
      · rw [q] at e; cases e
theorem gives_res : ∀ {ws : List W} {S : Store}, (∃ x S', gives ws S = .ok x S') ∨ gives ws S = .stuck
  | [], S => .inl ⟨_, _, rfl⟩
  | w :: ws, S => by
    unfold gives Mp.bnd
    rcases give_res (w := w) (S := S) with ⟨x, S1, q⟩ | q
    · rw [q]
      dsimp only
      rcases gives_res (ws := ws) (S := S1) with ⟨y, S2, q2⟩ | q2
      · rw [q2]; exact .inl ⟨_, _, rfl⟩
      · rw [q2]; exact .inr rfl
    · rw [q]; exact .inr rfl
/-- a new list laid -/
theorem newList_ok (s : Sim K Xx m S H) {live : Bool} {ws : List W} {vs : List V} {Q : V → Hp → Prop} {E : XK} (r : Rws K Xx m S H ws vs) (p : Post K mg Xx (Rw K Xx) m S H (newList live ws S) Q E) :
    ∀ q, H q = none → Q (.ref q) (upd H q (.lst vs)) := by
  intro q hq
  cases live with
  | true =>
    unfold newList alloc at p
    dsimp only at p
    split at p
    · rename_i hb
      refine p (.ref q) _ (m ++ [q]) (s.alloc hq hb (.lst r)) (Pv.alloc s hq) ⟨q, ?_, rfl⟩
      rw [← s.len]; simp
    · exact p.elim
  | false =>
    unfold newList at p
    dsimp only at p
    cases e : allDat ws with
    | none => rw [e] at p; exact p.elim
    | some ds =>
      rw [e] at p
      refine p (.ref q) _ m (s.new hq) (Pv.new hq s) ?_
      show Rp _ _ _ _
      unfold Rp
      have r' := Rws.mono (Pv.new (o := .lst vs) hq s) r
      exact ⟨q, vs, rfl, .inl upd_same, s.freshX hq, allDat_ok e r'⟩
/-- a new tuple laid -/
theorem newTup_ok (s : Sim K Xx m S H) {xs : List PyData} {vs : List V} {Q : V → Hp → Prop} {E : XK} (r : Rps (LX Xx m S) H xs vs) (p : Post K mg Xx (Rw K Xx) m S H (ret (.dat (.tuple xs)) S) Q E) :
    ∀ q, H q = none → Q (.ref q) (upd H q (.tup vs)) := by
  intro q hq
  refine p (.ref q) _ m (s.new hq) (Pv.new hq s) ?_
  show Rp _ _ _ _
  unfold Rp
  refine ⟨q, vs, rfl, upd_same, s.freshX hq, Rps.mono (fun a u n h => ⟨?_, n⟩) _ _ r⟩
  rw [upd_ne (ne_of_none h hq)]; exact h
end
end Mp
end

section
set_option Elab.async false
set_option linter.all false
set_option maxRecDepth 100000
set_option maxHeartbeats 400000
set_option autoImplicit false
/-! Mp5: soundness, operators. -/
namespace Mp
open PySem PySem.Spec PyProof.Rows L2

theorem roomy_le {n : Nat} (h : roomy n = true) : n ≤ sizeLine := by
  have q : n ≤ 1000000 := of_decide_eq_true h
  rw [sizeLine_eq]; omega
theorem roomy_lt {n : Nat} (h : roomy n = true) : n < sizeLine := by
  have q : n ≤ 1000000 := of_decide_eq_true h
  rw [sizeLine_eq]; omega
section
variable {X : Cx}
/-- list + list, a module's own among them -/
theorem op_catR : OpR X (binaryOp .Add) (fun x y H Q => ∃ l b xs zs, x = .ref l ∧ y = .ref b ∧ SqL X.K H l xs ∧ SqL X.K H b zs ∧ xs.length + zs.length ≤ sizeLine ∧ ∀ p, H p = none → Q (.ref p) (upd H p (.lst (xs ++ zs)))) := by
  intro pins s σ H x y v u Q I rx ry h
  obtain ⟨l, b, xs, zs, rfl, rfl, hH, hB, hz, q⟩ := h
  cases rx
  cases ry
  obtain ⟨its, r, pl, _⟩ := I.list hH
  obtain ⟨its2, r2, pl2, _⟩ := I.list hB
  have hl := r.length
  have hl2 := r2.length
  obtain ⟨⟨c1, dd, da, sl⟩, ho, hc, n, hd⟩ := pl.isList
  obtain ⟨⟨c2, dd2, da2, sl2⟩, ho2, hc2, n2, hd2⟩ := pl2.isList
  dsimp only at hc hd hc2 hd2
  subst hc hd hc2 hd2
  refine concat_meets ⟨_, ho, rfl⟩ ⟨_, ho2, rfl⟩ noFill_list_add seq_list_add PySem.F.slot_list_add PySem.F.entry_list_add (PySem.F.args_list_add_2 _ _) (list_addW l b its.toArray its2.toArray n n2 dd dd2 sl sl2 (by simp only [List.size_toArray]; omega)) ⟨ho, ho2, ?_⟩
  have ea : its.toArray ++ its2.toArray = (its ++ its2).toArray := by simp
  rw [ea]
  exact ⟨.ref _, _, I.lnew (t' := s.toks) (r.append r2) (by rw [List.length_append]; omega), rfl, q _ I.fresh⟩
def rB (K : PySem.W.Frag) : Operator → R2
  | .Add => fun x y H Q => (∃ i j, x = .int i ∧ y = .int j ∧ Q (.int (i + j)) H) ∨ (∃ i j, x = .str i ∧ y = .str j ∧ i.length + j.length ≤ sizeLine ∧ Q (.str (i ++ j)) H) ∨
      ∃ l b xs zs, x = .ref l ∧ y = .ref b ∧ SqL K H l xs ∧ SqL K H b zs ∧ xs.length + zs.length ≤ sizeLine ∧ ∀ p, H p = none → Q (.ref p) (upd H p (.lst (xs ++ zs)))
  | .Sub => rI0 fun i j => .int (i - j)
  | .Mult => rI CMul fun i j => .int (i * j)
  | .FloorDiv => rI CDivN fun i j => .int (i.fdiv j)
  | .Mod => rI (fun _ j => j ≠ 0) fun i j => .int (i.fmod j)
  | .Pow => rI CPow fun i j => .int (i ^ j.toNat)
  | _ => fun _ _ _ _ => False
theorem rB_ok (op : Operator) : OpR X (binaryOp op) (rB X.K op) := by
  cases op with
  | Add => exact op_add.or (op_add_str.or op_catR)
  | Sub => exact op_sub
  | Mult => exact op_mul
  | FloorDiv => exact op_fdivN
  | Mod => exact op_modN
  | Pow => exact op_pow
  | _ => intro pins s σ H x y v u Q I rx ry h; exact (show False from h).elim
end
section
variable {K : PySem.W.Frag} {mg : Str → Option Value} {Xx : Addr → Prop} {m m' : List Addr} {S S' : Store} {H H' : Hp}
theorem rp_int {i : Int} {v : V} (r : Rw K Xx m S H (.dat (.int i)) v) : v = .int i := by
  have r : Rp _ _ _ _ := r
  unfold Rp at r; exact r
theorem rp_str {i : Str} {v : V} (r : Rw K Xx m S H (.dat (.str i)) v) : v = .str i := by
  have r : Rp _ _ _ _ := r
  unfold Rp at r; exact r
theorem rp_bool {i : Bool} {v : V} (r : Rw K Xx m S H (.dat (.bool i)) v) : v = .bl i := by
  have r : Rp _ _ _ _ := r
  unfold Rp at r; exact r
theorem rp_none {v : V} (r : Rw K Xx m S H (.dat .none) v) : v = .non := by
  have r : Rp _ _ _ _ := r
  unfold Rp at r; exact r
theorem rw_int (i : Int) : Rw K Xx m S H (.dat (.int i)) (.int i) := by show Rp _ _ _ _; unfold Rp; rfl
theorem rw_str (i : Str) : Rw K Xx m S H (.dat (.str i)) (.str i) := by show Rp _ _ _ _; unfold Rp; rfl
theorem rw_bool (i : Bool) : Rw K Xx m S H (.dat (.bool i)) (.bl i) := by show Rp _ _ _ _; unfold Rp; rfl
theorem rw_none : Rw K Xx m S H (.dat .none) .non := by show Rp _ _ _ _; unfold Rp; rfl
theorem asInt_ok {w : W} {i : Int} {v : V} (e : asInt w = some i) (r : Rw K Xx m S H w v) : v = .int i := by
  unfold asInt at e
  split at e
  · cases e; exact rp_int r
  · cases e
theorem asStr_ok {w : W} {i : Str} {v : V} (e : asStr w = some i) (r : Rw K Xx m S H w v) : v = .str i := by
  unfold asStr at e
  split at e
  · cases e; exact rp_str r
  · cases e
theorem asBool_ok {w : W} {i : Bool} {v : V} (e : asBool w = some i) (r : Rw K Xx m S H w v) : v = .bl i := by
  unfold asBool at e
  split at e
  · cases e; exact rp_bool r
  · cases e
theorem mulOk_ok {i j : Int} (h : mulOk i j = true) : CMul i j := by
  unfold mulOk at h
  simp only [Bool.or_eq_true, Bool.and_eq_true, decide_eq_true_eq] at h
  exact h
theorem ownSeq_ok (s : Sim K Xx m S H) {w : W} {v : V} {ws : List W} (r : Rw K Xx m S H w v) (e : ownSeq S w = some (true, ws)) :
    ∃ a vs, v = .ref a ∧ Rd H a (.lst vs) ∧ Rws K Xx m S H ws vs := by
  unfold ownSeq at e
  split at e
  · cases e
  · rename_i w hw
    unfold seqOf at e
    split at e
    · cases e
      have r : Rp _ _ _ _ := r
      unfold Rp at r
      obtain ⟨a, vs, ev, rd, _, rs⟩ := r
      exact ⟨a, vs, ev, rd, Rps.to_ws (L := fun _ => True) rs⟩
    · cases e
    · exact absurd rfl (hw _)
    · exact absurd rfl (hw _)
    · split at e
      · rename_i n ws' he
        cases e
        obtain ⟨a, ea, ev⟩ := (show ∃ a, _ from r)
        obtain ⟨a', ho, e1, e2, ro⟩ := s.ob _ _ he
        rw [ea] at e1; cases e1
        cases ro with
        | lst rs => exact ⟨a, _, ev, .inl e2, rs⟩
      · cases e
    · cases e
theorem rws_len {ws : List W} {vs : List V} (r : Rws K Xx m S H ws vs) : ws.length = vs.length := Paired.length r
theorem rws_append : ∀ {ws xs : List W} {vs us : List V}, Rws K Xx m S H ws vs → Rws K Xx m S H xs us → Rws K Xx m S H (ws ++ xs) (vs ++ us)
  | _, _, _, _, .nil, r => r
  | _, _, _, _, .cons a t, r => .cons a (rws_append t r)
theorem binOp_ok (s : Sim K Xx m S H) {live : Bool} {op : Operator} {x y : W} {v u : V} {Q : V → Hp → Prop} {E : XK} (rx : Rw K Xx m S H x v) (ry : Rw K Xx m S H y u)
    (p : Post K mg Xx (Rw K Xx) m S H (binOp live op x y S) Q E) : rB K op v u H Q := by
  unfold binOp at p
  split at p
  · rename_i i j
    have e1 := rp_int rx
    have e2 := rp_int ry
    subst e1 e2
    split at p
    · rename_i z hz
      have q : Q (.int z) H := p.ok s Pv.refl (rw_int z)
      cases op <;> unfold intOp at hz <;> dsimp only at hz
      · cases hz; exact .inl ⟨i, j, rfl, rfl, q⟩
      · cases hz; exact ⟨i, j, rfl, rfl, q⟩
      · split at hz
        · rename_i hm
          cases hz; exact ⟨i, j, rfl, rfl, mulOk_ok hm, q⟩
        · cases hz
      · cases hz
      · cases hz
      · split at hz
        · rename_i hm
          cases hz; exact ⟨i, j, rfl, rfl, hm, q⟩
        · cases hz
      · split at hz
        · rename_i hm
          cases hz; exact ⟨i, j, rfl, rfl, hm, q⟩
        · cases hz
      · cases hz
      · cases hz
      · cases hz
      · cases hz
      · cases hz
      · split at hz
        · rename_i hm
          cases hz; exact ⟨i, j, rfl, rfl, hm, q⟩
        · cases hz
    · exact p.elim
  · rename_i a b
    have e1 := rp_str rx
    have e2 := rp_str ry
    subst e1 e2
    split at p
    · split at p
      · rename_i hr
        exact .inr (.inl ⟨a, b, rfl, rfl, roomy_le hr, p.ok s Pv.refl (rw_str _)⟩)
      · exact p.elim
    · exact p.elim
  · split at p
    · split at p
      · rename_i xs ys h1 h2
        split at p
        · rename_i hr
          obtain ⟨a, vs, ev, rd, _, rs⟩ := seqOf_ok s rx h1
          obtain ⟨b, us, eu, rd2, _, rs2⟩ := seqOf_ok s ry h2
          refine .inr (.inr ⟨a, b, vs, us, ev, eu, rd rfl, rd2 rfl, ?_, newList_ok s (rws_append rs rs2) p⟩)
          rw [← rws_len rs, ← rws_len rs2]
          exact roomy_le hr
        · exact p.elim
      · exact p.elim
    · exact p.elim
end

/-! ### comparisons -/
section
variable {X : Cx}
theorem op_inDict (hu : X.A.units + 65 < cLine) : OpR X (compareOp .In) (fun y x H Q => ∃ a o, x = .ref a ∧ DGet H a y o ∧ Q (.bl o.isSome) H) := by
  intro pins s σ H y x v u Q I ry rx h
  obtain ⟨a, o, rfl, g, q⟩ := h
  cases rx
  exact d_in (by omega) I g ry fun s' I' => ⟨.bl _, H, I', rfl, q⟩
theorem op_notInDict (hu : X.A.units + 65 < cLine) : OpR X (compareOp .NotIn) (fun y x H Q => ∃ a o, x = .ref a ∧ DGet H a y o ∧ Q (.bl (!o.isSome)) H) := by
  intro pins s σ H y x v u Q I ry rx h
  obtain ⟨a, o, rfl, g, q⟩ := h
  cases rx
  exact d_notIn (by omega) I g ry fun s' I' => ⟨.bl _, H, I', rfl, q⟩
end
end Mp
end

section
set_option Elab.async false
set_option linter.all false
set_option maxRecDepth 100000
set_option maxHeartbeats 400000
set_option autoImplicit false
/-! Mp6: soundness, dicts, comparisons. -/
namespace Mp
open PySem PySem.Spec L2

/-! ### an empty dict is of either kind -/
section
variable {X : Cx} {pins : List (Addr × Obj)} {σ : St} {H : Hp} {s : Shared} {a : Addr}
theorem inv_toT (I : Inv X pins σ H s) (h : H a = some (.dK [])) : Inv X pins σ (upd H a (.dT [])) s := by
  obtain ⟨z, hd, vs, rel, o, es, ep, e, ex, dt, r⟩ := dk_of I.hok h
  have J := I.write (x := a) (e := a) (o := .dT []) (t' := s.toks) (h' := s.heap) (by rw [h]; exact True.intro) (.inl rfl) (fun b u _ q => q) ⟨o, e⟩ ?_
  · exact J
  · cases rel
    refine ⟨Nat.zero_le _, hd, [], .nil, o, es, ep, e, ex, dt, ?_, List.nodup_nil⟩
    have q : Pairs (mixKind X.prog X.w) es.toList [] := r.2.1
    generalize es.toList = l at q ⊢
    cases q
    rfl
theorem inv_toK (I : Inv X pins σ H s) (h : H a = some (.dT [])) : Inv X pins σ (upd H a (.dK [])) s := by
  obtain ⟨z, hd, xs, rel, o, es, ep, e, ex, dt, r, nd⟩ := (show ObjOk X.prog X.w H s.heap a (.dT []) from I.hok a _ h)
  have J := I.write (x := a) (e := a) (o := .dK []) (t' := s.toks) (h' := s.heap) (by rw [h]; exact True.intro) (.inl rfl) (fun b u _ q => q) ⟨o, e⟩ ?_
  · exact J
  · cases rel
    refine ⟨Nat.zero_le _, hd, [], .nil, o, es, ep, e, ex, dt, ?_⟩
    have q : es.toList = [] := r
    refine ⟨fun x hx => ?_, ?_, List.nodup_nil⟩
    · have hx2 : x ∈ es.toList := by simpa using hx
      rw [q] at hx2; cases hx2
    · rw [q]; exact .nil
def ConvT (H : Hp) (a : Addr) (H1 : Hp) : Prop := H1 = H ∨ (H a = some (.dK []) ∧ H1 = upd H a (.dT [])) ∨ (H a = some (.dT []) ∧ H1 = upd H a (.dK []))
theorem inv_conv {H1 : Hp} (I : Inv X pins σ H s) (c : ConvT H a H1) : Inv X pins σ H1 s := by
  rcases c with e | ⟨h, e⟩ | ⟨h, e⟩
  · subst e; exact I
  · subst e; exact inv_toT I h
  · subst e; exact inv_toK I h
end
section
variable {K : PySem.W.Frag} {mg : Str → Option Value} {Xx : Addr → Prop} {m m' : List Addr} {S S' : Store} {H H' : Hp}
theorem list_set_same {α : Type} {l : List α} {n : Nat} {x : α} (h : l[n]? = some x) : l.set n x = l := by
  apply List.ext_getElem?
  intro i
  by_cases e : n = i
  · subst e
    have hl := (List.getElem?_eq_some_iff.mp h).1
    rw [List.getElem?_set_self hl, h]
  · rw [List.getElem?_set_ne e]
theorem conv_cases (o : Ob) (d : PyData) : conv o d = o ∨ (o = .dk [] ∧ conv o d = .dt []) ∨ (o = .dt [] ∧ conv o d = .dk []) := by
  unfold conv
  split
  · exact .inr (.inl ⟨rfl, rfl⟩)
  · exact .inr (.inr ⟨rfl, rfl⟩)
  · exact .inr (.inr ⟨rfl, rfl⟩)
  · exact .inl rfl
theorem conv_ok (s : Sim K Xx m S H) {n : Nat} {o : Ob} {a : Addr} {ho : HO} (d : PyData) (e : S[n]? = some (some o)) (ea : m[n]? = some a) (eh : H a = some ho) (r : Ro K Xx m S H o ho) :
    ∃ H1 ho1, ConvT H a H1 ∧ Sim K Xx m (S.set n (some (conv o d))) H1 ∧ Pv m S H m (S.set n (some (conv o d))) H1 ∧ H1 a = some ho1 ∧ Ro K Xx m (S.set n (some (conv o d))) H1 (conv o d) ho1 := by
  rcases conv_cases o d with q | ⟨q1, q2⟩ | ⟨q1, q2⟩
  · rw [q, list_set_same e]
    exact ⟨H, ho, .inl rfl, s, Pv.refl, eh, r⟩
  · subst q1
    rw [q2]
    cases r with
    | dk r =>
      cases r
      exact ⟨_, .dT [], .inr (.inl ⟨eh, rfl⟩), s.write e ea rfl (.dt .nil), Pv.write e ea, upd_same, .dt .nil⟩
  · subst q1
    rw [q2]
    cases r with
    | dt r =>
      cases r
      exact ⟨_, .dK [], .inr (.inr ⟨eh, rfl⟩), s.write e ea rfl (.dk .nil), Pv.write e ea, upd_same, .dk .nil⟩
/-! ### keys -/
theorem keyOf_ok {L : Addr → Prop} {d : PyData} {k : Key} {v : V} (e : keyOf d = some k) (r : Rp L H d v) : v = kV k := by
  unfold keyOf at e
  split at e
  · cases e; unfold Rp at r; exact r
  · cases e; unfold Rp at r; exact r
  · cases e
theorem keysOf_ok {L : Addr → Prop} : ∀ {ds : List PyData} {ks : List Key} {vs : List V}, keysOf ds = some ks → Rps L H ds vs → vs = ks.map kV
  | [], ks, vs, e, r => by
    cases e
    unfold Rps at r
    exact r
  | d :: ds, ks, vs, e, r => by
    unfold keysOf at e
    split at e
    · rename_i k ks' h1 h2
      cases e
      unfold Rps at r
      obtain ⟨v, t, ev, r1, r2⟩ := r
      rw [ev, keyOf_ok h1 r1, keysOf_ok h2 r2]
      rfl
    · cases e
def RoptW (K : PySem.W.Frag) (Xx : Addr → Prop) (m : List Addr) (S : Store) (H : Hp) : Option W → Option V → Prop
  | some w, some v => Rw K Xx m S H w v
  | none, none => True
  | _, _ => False
theorem getK_ok {κ : Type} [DecidableEq κ] {kvs : List (κ × W)} {us : List (κ × V)} (r : Paired (fun (p : κ × W) (q : κ × V) => p.1 = q.1 ∧ Rw K Xx m S H p.2 q.2) kvs us) (k : κ) : RoptW K Xx m S H (getK kvs k) (valV us k) := by
  induction r with
  | nil => exact True.intro
  | @cons p q ps qs h t ih =>
    obtain ⟨h1, h2⟩ := h
    by_cases e : p.1 = k
    · have e2 : q.1 = k := h1 ▸ e
      have g1 : getK (p :: ps) k = some p.2 := by simp [getK, List.find?_cons, e]
      rw [g1, valV_pos e2]
      exact h2
    · have e2 : ¬ q.1 = k := fun z => e (h1.trans z)
      have g1 : getK (p :: ps) k = getK ps k := by simp [getK, List.find?_cons, e]
      rw [g1, valV_neg e2]
      exact ih
theorem any_ok {κ : Type} [DecidableEq κ] {kvs : List (κ × W)} {us : List (κ × V)} (r : Paired (fun (p : κ × W) (q : κ × V) => p.1 = q.1 ∧ Rw K Xx m S H p.2 q.2) kvs us) (k : κ) :
    (kvs.any fun kv => decide (kv.1 = k)) = us.any fun kv => decide (kv.1 = k) := by
  induction r with
  | nil => rfl
  | @cons p q ps qs h t ih =>
    rw [List.any_cons, List.any_cons, ih, h.1]
theorem setK_ok {κ : Type} [DecidableEq κ] {kvs : List (κ × W)} {us : List (κ × V)} (r : Paired (fun (p : κ × W) (q : κ × V) => p.1 = q.1 ∧ Rw K Xx m S H p.2 q.2) kvs us) (k : κ) {w : W} {v : V} (rv : Rw K Xx m S H w v) :
    Paired (fun (p : κ × W) (q : κ × V) => p.1 = q.1 ∧ Rw K Xx m S H p.2 q.2) (setK kvs k w) (putK us k v) := by
  unfold setK putK
  rw [any_ok r k]
  generalize (us.any fun kv => decide (kv.1 = k)) = c
  split
  · induction r with
    | nil => exact .nil
    | @cons p q ps qs h t ih =>
      refine .cons ?_ ih
      obtain ⟨h1, h2⟩ := h
      by_cases e : p.1 = k
      · have e2 : q.1 = k := h1 ▸ e
        dsimp only
        rw [if_pos e, if_pos e2]
        exact ⟨h1, rv⟩
      · have e2 : ¬ q.1 = k := fun z => e (h1.trans z)
        dsimp only
        rw [if_neg e, if_neg e2]
        exact ⟨h1, h2⟩
  · induction r with
    | nil => exact .cons ⟨rfl, rv⟩ .nil
    | @cons p q ps qs h t ih => exact .cons h ih
theorem setK_len {κ : Type} [DecidableEq κ] (kvs : List (κ × W)) (k : κ) (w : W) : (setK kvs k w).length ≤ kvs.length + 1 := by
  unfold setK
  split
  · rw [List.length_map]; omega
  · rw [List.length_append, List.length_singleton]; omega
theorem setK_below {κ : Type} [DecidableEq κ] {kvs : List (κ × W)} {n : Nat} (h : (kvs.all fun p => p.2.below n) = true) (k : κ) {w : W} (hw : w.below n = true) : ((setK kvs k w).all fun p => p.2.below n) = true := by
  unfold setK
  split
  · rw [List.all_eq_true] at h ⊢
    intro p hp
    obtain ⟨q, hq, e⟩ := List.mem_map.mp hp
    subst e
    split
    · exact hw
    · exact h q hq
  · rw [List.all_append, h]
    simp [hw]
/-- what a dict is asked -/
theorem askD_ok {o : Ob} {ho : HO} {a : Addr} {d : PyData} {r : Option W} {y : V} (eh : H a = some ho) (ro : Ro K Xx m S H o ho) (e : askD o d = some r) (ry : Rp (LX Xx m S) H d y) :
    ∃ ov, DGet H a y ov ∧ RoptW K Xx m S H r ov := by
  unfold askD at e
  split at e
  · split at e
    · rename_i k hk
      cases e
      cases ro with
      | dk rr =>
        rw [keyOf_ok hk ry]
        exact ⟨_, DGet.k eh, getK_ok rr k⟩
    · cases e
  · split at e
    · rename_i ds
      split at e
      · rename_i ks hk
        cases e
        cases ro with
        | dt rr =>
          unfold Rp at ry
          obtain ⟨b, vs, ey, eb, _, rs⟩ := ry
          subst ey
          rw [keysOf_ok hk rs] at eb
          exact ⟨_, DGet.t eh eb, getK_ok rr ks⟩
      · cases e
    · cases e
  · cases e
theorem sizeD_ok {o : Ob} {ho : HO} (ro : Ro K Xx m S H o ho) : (∃ kvs, ho = .dK kvs ∧ kvs.length = sizeD o) ∨ (∃ kvs, ho = .dT kvs ∧ kvs.length = sizeD o) ∨ ∃ vs, ho = .lst vs ∧ vs.length = sizeD o := by
  cases ro with
  | lst r => exact .inr (.inr ⟨_, rfl, (Paired.length r).symm⟩)
  | dk r => exact .inl ⟨_, rfl, (Paired.length r).symm⟩
  | dt r => exact .inr (.inl ⟨_, rfl, (Paired.length r).symm⟩)
/-- what is put into a dict -/
theorem putD_ok {o o' : Ob} {ho : HO} {a : Addr} {n : Nat} {d : PyData} {w : W} {y v : V} (s : Sim K Xx m S H) (en : S[n]? = some (some o)) (ea : m[n]? = some a) (eh : H a = some ho) (ro : Ro K Xx m S H o ho) (hz : sizeD o < sizeLine)
    (e : putD o d w = some o') (ry : Rp (LX Xx m S) H d y) (rv : Rw K Xx m S H w v) (hw : w.below n = true) :
    ∃ H', DPut H a y v H' ∧ Sim K Xx m (S.set n (some o')) H' ∧ Pv m S H m (S.set n (some o')) H' := by
  have lo := s.low n o en
  unfold putD at e
  split at e
  · rename_i kvs
    split at e
    · rename_i k hk
      cases e
      cases ro with
      | @dk _ us rr =>
        have hl := Paired.length rr
        rw [keyOf_ok hk ry]
        refine ⟨_, DPut.k eh ?_, s.write en ea ?_ (.dk (setK_ok rr k rv)), Pv.write en ea⟩
        · rw [← hl]; exact hz
        · exact setK_below lo k hw
    · cases e
  · rename_i kvs
    split at e
    · rename_i ds
      split at e
      · rename_i ks hk
        cases e
        cases ro with
        | @dt _ us rr =>
          have hl := Paired.length rr
          unfold Rp at ry
          obtain ⟨b, vs, ey, eb, _, rs⟩ := ry
          subst ey
          rw [keysOf_ok hk rs] at eb
          refine ⟨_, DPut.t eh eb ?_, s.write en ea ?_ (.dt (setK_ok rr ks rv)), Pv.write en ea⟩
          · rw [← hl]; exact hz
          · exact setK_below lo ks hw
      · cases e
    · cases e
  · cases e
end
end Mp
end

section
set_option Elab.async false
set_option linter.all false
set_option maxRecDepth 100000
set_option maxHeartbeats 400000
set_option autoImplicit false
/-! Mp7: soundness, comparisons and truth. -/
namespace Mp
open PySem PySem.Spec L2
section
variable {X : Cx}
def rInDT (K : PySem.W.Frag) : R2 := fun x y H Q => ∃ d ds, Dp K H x d ∧ Dp K H y (.tuple ds) ∧ SeqAt.shaped d = true ∧ SeqAt.shaped (.tuple ds) = true ∧ Q (.bl (ds.any fun z => PyData.eqv z d)) H
def rNotInDT (K : PySem.W.Frag) : R2 := fun x y H Q => ∃ d ds, Dp K H x d ∧ Dp K H y (.tuple ds) ∧ SeqAt.shaped d = true ∧ SeqAt.shaped (.tuple ds) = true ∧ Q (.bl (!ds.any fun z => PyData.eqv z d)) H
theorem op_inDT (hu : X.A.units + 65 < cLine) : OpR X (compareOp .In) (rInDT X.K) := by
  intro pins s σ H x y v u Q I rx ry h
  obtain ⟨d, ds, hd, he, sd, se, q⟩ := h
  obtain ⟨as, r1⟩ := Dp.reads I d x v hd rx
  obtain ⟨bs, r2⟩ := Dp.reads I (.tuple ds) y u he ry
  exact SeqAt.in_tuple_reads r2 r1 (SeqAt.canLay_of_shaped se) (SeqAt.canLay_of_shaped sd) (PyProof.Rows.room_in_shaped sd hu) ⟨.bl _, H, I, rfl, q⟩
theorem op_notInDT (hu : X.A.units + 65 < cLine) : OpR X (compareOp .NotIn) (rNotInDT X.K) := by
  intro pins s σ H x y v u Q I rx ry h
  obtain ⟨d, ds, hd, he, sd, se, q⟩ := h
  obtain ⟨as, r1⟩ := Dp.reads I d x v hd rx
  obtain ⟨bs, r2⟩ := Dp.reads I (.tuple ds) y u he ry
  exact SeqAt.notIn_tuple_reads r2 r1 (SeqAt.canLay_of_shaped se) (SeqAt.canLay_of_shaped sd) (PyProof.Rows.room_in_shaped sd hu) ⟨.bl _, H, I, rfl, q⟩
def rInDc : R2 := fun y x H Q => ∃ a o H1, x = .ref a ∧ ConvT H a H1 ∧ DGet H1 a y o ∧ Q (.bl o.isSome) H1
def rNotInDc : R2 := fun y x H Q => ∃ a o H1, x = .ref a ∧ ConvT H a H1 ∧ DGet H1 a y o ∧ Q (.bl (!o.isSome)) H1
theorem op_inDc (hu : X.A.units + 65 < cLine) : OpR X (compareOp .In) rInDc := by
  intro pins s σ H y x v u Q I ry rx h
  obtain ⟨a, o, H1, rfl, c, g, q⟩ := h
  cases rx
  exact d_in (by omega) (inv_conv I c) g ry fun s' I' => ⟨.bl _, H1, I', rfl, q⟩
theorem op_notInDc (hu : X.A.units + 65 < cLine) : OpR X (compareOp .NotIn) rNotInDc := by
  intro pins s σ H y x v u Q I ry rx h
  obtain ⟨a, o, H1, rfl, c, g, q⟩ := h
  cases rx
  exact d_notIn (by omega) (inv_conv I c) g ry fun s' I' => ⟨.bl _, H1, I', rfl, q⟩
def rStrIn : R2 := fun x y H Q => ∃ i j, x = .str i ∧ y = .str j ∧ Q (.bl (!(Builtin.Str.occurrences j i 0 j.length 1).isEmpty)) H
def rStrNotIn : R2 := fun x y H Q => ∃ i j, x = .str i ∧ y = .str j ∧ Q (.bl (!(!(Builtin.Str.occurrences j i 0 j.length 1).isEmpty))) H
def rC (K : PySem.W.Frag) : CmpOp → R2
  | .Eq => rEqD K
  | .NotEq => rNeD K
  | .Lt => rI0 fun i j => .bl (decide (i < j))
  | .LtE => rI0 fun i j => .bl (decide (i ≤ j))
  | .Gt => rI0 fun i j => .bl (decide (j < i))
  | .GtE => rI0 fun i j => .bl (decide (j ≤ i))
  | .In => fun x y H Q => rInD K x y H Q ∨ rInDT K x y H Q ∨ rInDc x y H Q ∨ rStrIn x y H Q
  | .NotIn => fun x y H Q => rNotInD K x y H Q ∨ rNotInDT K x y H Q ∨ rNotInDc x y H Q ∨ rStrNotIn x y H Q
  | .Is => fun x y H Q => y = .non ∧ Q (.bl (decide (x = .non))) H
  | .IsNot => fun x y H Q => y = .non ∧ Q (.bl (!decide (x = .non))) H
theorem rC_ok (hu : X.A.units + 65 < cLine) (op : CmpOp) : OpR X (compareOp op) (rC X.K op) := by
  cases op with
  | Eq => exact op_eqD (by omega)
  | NotEq => exact op_neD (by omega)
  | Lt => exact op_lt
  | LtE => exact op_le
  | Gt => exact op_gt
  | GtE => exact op_ge
  | In => exact (op_inD hu).or ((op_inDT hu).or ((op_inDc hu).or op_in_str))
  | NotIn => exact (op_notInD hu).or ((op_notInDT hu).or ((op_notInDc hu).or op_notin_str))
  | Is => exact op_isN
  | IsNot => exact op_notN
end
section
variable {K : PySem.W.Frag} {mg : Str → Option Value} {Xx : Addr → Prop} {m m' : List Addr} {S S' : Store} {H H' : Hp}
abbrev RB : List Addr → Store → Hp → Bool → Bool → Prop := fun _ _ _ b k => b = k
theorem isNone_dp {d : PyData} {v : V} (h : Dp K H v d) : decide (v = .non) = (match d with | .none => true | _ => false) := by
  cases h <;> rfl
theorem RoptW.some_iff {r : Option W} {o : Option V} (h : RoptW K Xx m S H r o) : r.isSome = o.isSome := by
  cases r <;> cases o <;> first | rfl | exact h.elim
theorem isIn_ok (s : Sim K Xx m S H) {x y : W} {v u : V} {Q : Bool → Hp → Prop} {E : XK} (rx : Rw K Xx m S H x v) (ry : Rw K Xx m S H y u)
    (p : Post K mg Xx RB m S H (isIn x y S) Q E) : rC K .In v u H (fun z H' => ∃ k, z = .bl k ∧ Q k H') ∧ rC K .NotIn v u H (fun z H' => ∃ k, z = .bl (!k) ∧ Q k H') := by
  unfold isIn at p
  split at p
  · rename_i n o hl
    obtain ⟨a, ho, eu, ew, en, ea, eh, ro⟩ := liveAt_ok s ry hl
    split at p
    · split at p
      · rename_i d hd
        split at p
        · rename_i r hr
          obtain ⟨H1, ho1, c, s1, pv, eh1, ro1⟩ := conv_ok s d en ea eh ro
          have rx' := Rw.mono pv x v rx
          have ry' : Rp (LX Xx m (S.set n (some (conv o d)))) H1 d v := by
            unfold datOf at hd
            split at hd
            · cases hd; exact rx'
            · cases hd
          obtain ⟨ov, g, rr⟩ := askD_ok eh1 ro1 hr ry'
          have q := p _ H1 m s1 pv rfl
          rw [rr.some_iff] at q
          exact ⟨.inr (.inr (.inl ⟨a, ov, H1, eu, c, g, _, rfl, q⟩)), .inr (.inr (.inl ⟨a, ov, H1, eu, c, g, _, rfl, q⟩))⟩
        · exact p.elim
      · exact p.elim
    · split at p
      · rename_i d ds h1 h2
        split at p
        · rename_i hc
          have q := p _ H m s Pv.refl rfl
          exact ⟨.inl ⟨d, ds, view1_ok s rx h1, view1_ok s ry h2, hc.1, hc.2, _, rfl, q⟩, .inl ⟨d, ds, view1_ok s rx h1, view1_ok s ry h2, hc.1, hc.2, _, rfl, q⟩⟩
        · exact p.elim
      · exact p.elim
  · split at p
    · rename_i a b h1 h2
      have q := p _ H m s Pv.refl rfl
      have e1 := view1_ok s rx h1
      have e2 := view1_ok s ry h2
      cases e1
      cases e2
      exact ⟨.inr (.inr (.inr ⟨a, b, rfl, rfl, _, rfl, q⟩)), .inr (.inr (.inr ⟨a, b, rfl, rfl, _, rfl, q⟩))⟩
    · rename_i d ds h1 h2
      split at p
      · rename_i hc
        have q := p _ H m s Pv.refl rfl
        exact ⟨.inl ⟨d, ds, view1_ok s rx h1, view1_ok s ry h2, hc.1, hc.2, _, rfl, q⟩, .inl ⟨d, ds, view1_ok s rx h1, view1_ok s ry h2, hc.1, hc.2, _, rfl, q⟩⟩
      · exact p.elim
    · rename_i d ds h1 h2
      split at p
      · rename_i hc
        have q := p _ H m s Pv.refl rfl
        exact ⟨.inr (.inl ⟨d, ds, view1_ok s rx h1, view1_ok s ry h2, hc.1, hc.2, _, rfl, q⟩), .inr (.inl ⟨d, ds, view1_ok s rx h1, view1_ok s ry h2, hc.1, hc.2, _, rfl, q⟩)⟩
      · exact p.elim
    · exact p.elim
theorem rC_mono {op : CmpOp} {v u : V} {Q Q' : VK} (h : ∀ z H', Q z H' → Q' z H') (p : rC K op v u H Q) : rC K op v u H Q' := by
  cases op with
  | Eq => obtain ⟨d, e, a, b, c, f, q⟩ := p; exact ⟨d, e, a, b, c, f, h _ _ q⟩
  | NotEq => obtain ⟨d, e, a, b, c, f, q⟩ := p; exact ⟨d, e, a, b, c, f, h _ _ q⟩
  | Lt => obtain ⟨i, j, a, b, q⟩ := p; exact ⟨i, j, a, b, h _ _ q⟩
  | LtE => obtain ⟨i, j, a, b, q⟩ := p; exact ⟨i, j, a, b, h _ _ q⟩
  | Gt => obtain ⟨i, j, a, b, q⟩ := p; exact ⟨i, j, a, b, h _ _ q⟩
  | GtE => obtain ⟨i, j, a, b, q⟩ := p; exact ⟨i, j, a, b, h _ _ q⟩
  | In =>
    rcases p with ⟨d, e, a, b, c, f, q⟩ | ⟨d, e, a, b, c, f, q⟩ | ⟨a, o, H1, e, c, g, q⟩ | ⟨i, j, a, b, q⟩
    · exact .inl ⟨d, e, a, b, c, f, h _ _ q⟩
    · exact .inr (.inl ⟨d, e, a, b, c, f, h _ _ q⟩)
    · exact .inr (.inr (.inl ⟨a, o, H1, e, c, g, h _ _ q⟩))
    · exact .inr (.inr (.inr ⟨i, j, a, b, h _ _ q⟩))
  | NotIn =>
    rcases p with ⟨d, e, a, b, c, f, q⟩ | ⟨d, e, a, b, c, f, q⟩ | ⟨a, o, H1, e, c, g, q⟩ | ⟨i, j, a, b, q⟩
    · exact .inl ⟨d, e, a, b, c, f, h _ _ q⟩
    · exact .inr (.inl ⟨d, e, a, b, c, f, h _ _ q⟩)
    · exact .inr (.inr (.inl ⟨a, o, H1, e, c, g, h _ _ q⟩))
    · exact .inr (.inr (.inr ⟨i, j, a, b, h _ _ q⟩))
  | Is => exact ⟨p.1, h _ _ p.2⟩
  | IsNot => exact ⟨p.1, h _ _ p.2⟩
theorem cmpOp_ok (s : Sim K Xx m S H) {op : CmpOp} {x y : W} {v u : V} {Q : Bool → Hp → Prop} {E : XK} (rx : Rw K Xx m S H x v) (ry : Rw K Xx m S H y u)
    (p : Post K mg Xx RB m S H (cmpOp op x y S) Q E) : rC K op v u H (fun z H' => ∃ k, z = .bl k ∧ Q k H') := by
  cases op with
  | Eq =>
    unfold cmpOp at p
    dsimp only at p
    split at p
    · rename_i a b h1 h2
      split at p
      · rename_i hc
        exact ⟨a, b, view1_ok s rx h1, view1_ok s ry h2, hc.1, hc.2, _, rfl, p _ H m s Pv.refl rfl⟩
      · exact p.elim
    · exact p.elim
  | NotEq =>
    unfold cmpOp at p
    dsimp only at p
    split at p
    · rename_i a b h1 h2
      split at p
      · rename_i hc
        exact ⟨a, b, view1_ok s rx h1, view1_ok s ry h2, hc.1, hc.2, _, rfl, p _ H m s Pv.refl rfl⟩
      · exact p.elim
    · exact p.elim
  | Lt =>
    unfold cmpOp at p
    dsimp only at p
    split at p
    · rename_i i j h1 h2
      exact ⟨i, j, asInt_ok h1 rx, asInt_ok h2 ry, _, rfl, p _ H m s Pv.refl rfl⟩
    · exact p.elim
  | LtE =>
    unfold cmpOp at p
    dsimp only at p
    split at p
    · rename_i i j h1 h2
      exact ⟨i, j, asInt_ok h1 rx, asInt_ok h2 ry, _, rfl, p _ H m s Pv.refl rfl⟩
    · exact p.elim
  | Gt =>
    unfold cmpOp at p
    dsimp only at p
    split at p
    · rename_i i j h1 h2
      exact ⟨i, j, asInt_ok h1 rx, asInt_ok h2 ry, _, rfl, p _ H m s Pv.refl rfl⟩
    · exact p.elim
  | GtE =>
    unfold cmpOp at p
    dsimp only at p
    split at p
    · rename_i i j h1 h2
      exact ⟨i, j, asInt_ok h1 rx, asInt_ok h2 ry, _, rfl, p _ H m s Pv.refl rfl⟩
    · exact p.elim
  | In =>
    have p : Post K mg Xx RB m S H (isIn x y S) Q E := p
    exact (isIn_ok s rx ry p).1
  | NotIn =>
    have p : Post K mg Xx RB m S H (bnd (isIn x y) (fun b => ret (!b)) S) Q E := p
    have q := (Post.bnd (R := RB) p)
    refine rC_mono ?_ (isIn_ok s rx ry q).2
    rintro z H' ⟨k, e, b, S1, m1, s1, pv1, eb, p1⟩
    have eb : b = k := eb
    subst eb
    exact ⟨_, e, p1.ret s1 rfl⟩
  | Is =>
    unfold cmpOp at p
    dsimp only at p
    split at p
    · split at p
      · rename_i d hd
        refine ⟨rp_none ry, _, rfl, ?_⟩
        rw [isNone_dp (view1_ok s rx hd)]
        have q := p _ H m s Pv.refl rfl
        revert q
        cases d <;> exact id
      · exact p.elim
    · exact p.elim
  | IsNot =>
    unfold cmpOp at p
    dsimp only at p
    split at p
    · split at p
      · rename_i d hd
        refine ⟨rp_none ry, _, rfl, ?_⟩
        rw [isNone_dp (view1_ok s rx hd)]
        have q := p _ H m s Pv.refl rfl
        revert q
        cases d <;> exact id
      · exact p.elim
    · exact p.elim
/-- truth -/
theorem rws_isEmpty {ws : List W} {vs : List V} (r : Rws K Xx m S H ws vs) : ws.isEmpty = vs.isEmpty := by cases r <;> rfl
theorem truth_ok (s : Sim K Xx m S H) {w : W} {v : V} {Q : Bool → Hp → Prop} {E : XK} (r : Rw K Xx m S H w v) (p : Post K mg Xx RB m S H (truth w S) Q E) : ∃ k, TruV K v H k ∧ Q k H := by
  unfold truth at p
  split at p
  · have e := rp_none r
    subst e
    exact ⟨false, rfl, p _ H m s Pv.refl rfl⟩
  · have e := rp_bool r
    subst e
    exact ⟨_, rfl, p _ H m s Pv.refl rfl⟩
  · have e := rp_int r
    subst e
    exact ⟨_, rfl, p _ H m s Pv.refl rfl⟩
  · have e := rp_str r
    subst e
    split at p
    · rename_i hr
      exact ⟨_, ⟨roomy_le hr, rfl⟩, p _ H m s Pv.refl rfl⟩
    · exact p.elim
  · split at p
    · rename_i b ws hs
      obtain ⟨a, vs, ev, h1, h2, rs⟩ := seqOf_ok s r hs
      subst ev
      have q := p _ H m s Pv.refl rfl
      rw [rws_isEmpty rs] at q
      cases b with
      | true => exact ⟨_, .inl ⟨vs, h1 rfl, rfl⟩, q⟩
      | false => exact ⟨_, .inr (.inl ⟨vs, h2 rfl, rfl⟩), q⟩
    · exact p.elim
end
end Mp
end

section
set_option Elab.async false
set_option linter.all false
set_option maxRecDepth 100000
set_option maxHeartbeats 400000
set_option autoImplicit false
/-! Mp8: soundness, subscripts, methods, builtins by values. -/
namespace Mp
open PySem PySem.Spec L2
section
variable {X : Cx}
/-! ### subscripts -/
def rIxD : R2 := fun x y H Q => ∃ a v H1, x = .ref a ∧ ConvT H a H1 ∧ DGet H1 a y (some v) ∧ Q v H1
theorem ix_dictc (hu : X.A.units + 65 < cLine) : IxR X rIxD := by
  intro value slice pins s σ H x y v u Q I rx ry h hs
  obtain ⟨a, w, H1, rfl, c, g, q⟩ := h
  cases rx
  have J := inv_conv I c
  exact PyProof.Rows.tail_any (dict_typeIs J g) PySem.F.slot_dict_getitem.lookup (d_getItem (by omega) J g ry fun w' s' I' rw' => ⟨w, H1, I', rw', q⟩) hs
def rItem (K : PySem.W.Frag) : R2 := fun x y H Q => rIx K x y H Q ∨ rIxD x y H Q
theorem rItem_ok (hu : X.A.units + 65 < cLine) : IxR X (rItem X.K) := ix_seq.or (ix_dictc hu)
/-- o[i] = v -/
def rSetD : TSet := fun o i v H Q => ∃ a H1 H2, o = .ref a ∧ ConvT H a H1 ∧ DPut H1 a i v H2 ∧ Q H2
def rSetI : TSet := fun o i v H Q => rSetL o i v H Q ∨ rSetD o i v H Q
theorem set_dictc (hu : X.A.units + 65 < cLine) : PSet X rSetD := by
  intro pins s σ H o i v ov iv u Q I ro ri rv h
  obtain ⟨a, H1, H2, rfl, c, g, q⟩ := h
  cases ro
  exact d_setItem (by omega) (inv_conv I c) g ri rv fun s' I' => ⟨H2, I', q⟩
theorem rSetI_ok (hu : X.A.units + 65 < cLine) : PSet X rSetI := by
  intro pins s σ H o i v ov iv u Q I ro ri rv h
  rcases h with h | h
  · exact set_list pins s σ H o i v ov iv u Q I ro ri rv h
  · exact set_dictc hu pins s σ H o i v ov iv u Q I ro ri rv h
/-! ### dict methods -/
def rGet : V → List V → Hp → VK → Prop := fun x xs H Q => ∃ a ov H1, x = .ref a ∧ ConvT H a H1 ∧ ((∃ y, xs = [y] ∧ DGet H1 a y ov ∧ Q (ov.getD .non) H1) ∨ ∃ y z, xs = [y, z] ∧ DGet H1 a y ov ∧ Q (ov.getD z) H1)
theorem mt_getc (hu : X.A.units + 65 < cLine) : MtR X "dict.get" rGet := by
  intro pins s σ H x xs v us Q I rx rxs h
  obtain ⟨a, ov, H1, rfl, c, h⟩ := h
  cases rx
  have J := inv_conv I c
  rcases h with ⟨y, rfl, g, q⟩ | ⟨y, z, rfl, g, q⟩
  · obtain ⟨u, rfl, ru⟩ := vals1 rxs
    exact d_get1 (by omega) J g ru fun w' s' I' r' => ⟨_, H1, I', r', q⟩
  · obtain ⟨u, w, rfl, ru, rw'⟩ := vals2 rxs
    exact d_get2 (by omega) J g ru rw' fun w' s' I' r' => ⟨_, H1, I', r', q⟩
theorem d_setdT {pins : List (Addr × Obj)} {σ : L2.St} {H : Hp} {s : Shared} {a b : Addr} {kvs : List (List Key × V)} {k : List Key} {d : V} {r : Value} {E : Value → Shared → Prop} {A : Around} {Q : Value → Shared → Prop} (hu : A.units + 1 < cLine) (I : L2.Inv X pins σ H s)
    (e : H a = some (.dT kvs)) (eb : H b = some (.tup (k.map kV))) (rd : L2.RelV d r) (hl : kvs.length < sizeLine)
    (h1 : ∀ v, valV kvs k = some v → ∀ (w' : Value) (s' : Shared), L2.Inv X pins σ H s' → L2.RelV v w' → Q w' s') (h2 : valV kvs k = none → ∀ (w' : Value) (s' : Shared), L2.Inv X pins σ (upd H a (.dT (putK kvs k d))) s' → L2.RelV d w' → Q w' s') :
    wpAny (model X.prog X.w) A (call (.builtin "dict.setdefault") [.ref a, .ref b, r]) Q E s := by
  obtain ⟨z, hd, xs, rel, dd⟩ := dt_of I.hok e
  have hz : xs.length ≤ sizeLine := by rw [← Paired.length rel]; exact z
  have key := rel.val k
  refine call_setdefault_heap (tupleKind_room_in1 hu) (key_of I.hok eb) hd dd (fun p hp => ?_) (fun hn h' dd' hs => ?_) hz
  · rw [hp] at key
    cases q0 : valV kvs k with
    | none => rw [q0] at key; exact (show False from key).elim
    | some v0 => rw [q0] at key; exact h1 v0 q0 _ _ (I.tok _) key
  · rw [hn] at key
    cases q0 : valV kvs k with
    | some v0 => rw [q0] at key; exact (show False from key).elim
    | none =>
      have hl2 : (putK kvs k d).length ≤ sizeLine := by have := length_putK kvs k d; omega
      obtain ⟨q, es, ep, hq, g2, g3, g4, _, g5⟩ := dd'
      refine h2 q0 _ _ (d_write I (by rw [e]; exact True.intro) hs ⟨q, hq⟩ ⟨hl2, hd, _, (rel.put k eb rd).keeps fun c ys ec => ?_, q, es, ep, hq, g2, g3, g4, g5⟩) rd
      rw [upd_ne (ne_of ec e (fun z => nomatch z))]
      exact ec
def rSetd : V → List V → Hp → VK → Prop := fun x xs H Q => ∃ a H1 y z, x = .ref a ∧ xs = [y, z] ∧ ConvT H a H1 ∧
  ((∃ kvs k, H1 a = some (.dK kvs) ∧ y = kV k ∧ kvs.length < sizeLine ∧ (∀ v, valV kvs k = some v → Q v H1) ∧ (valV kvs k = none → Q z (upd H1 a (.dK (putK kvs k z))))) ∨
    ∃ kvs k b, H1 a = some (.dT kvs) ∧ y = .ref b ∧ H1 b = some (.tup (k.map kV)) ∧ kvs.length < sizeLine ∧ (∀ v, valV kvs k = some v → Q v H1) ∧ (valV kvs k = none → Q z (upd H1 a (.dT (putK kvs k z)))))
theorem mt_setdc (hu : X.A.units + 65 < cLine) : MtR X "dict.setdefault" rSetd := by
  intro pins s σ H x xs v us Q I rx rxs h
  obtain ⟨a, H1, y, z, rfl, rfl, c, h⟩ := h
  cases rx
  have J := inv_conv I c
  obtain ⟨u, w, rfl, ru, rz⟩ := vals2 rxs
  rcases h with ⟨kvs, k, e, ey, hl, q1, q2⟩ | ⟨kvs, k, b, e, ey, eb, hl, q1, q2⟩
  · subst ey
    exact d_setd J e ru rz hl (fun v hv w' s' I' r' => ⟨v, H1, I', r', q1 v hv⟩) fun hn w' s' I' r' => ⟨z, _, I', r', q2 hn⟩
  · subst ey
    cases (show u = Value.ref b from ru)
    exact d_setdT (by omega) J e eb rz hl (fun v hv w' s' I' r' => ⟨v, H1, I', r', q1 v hv⟩) fun hn w' s' I' r' => ⟨z, _, I', r', q2 hn⟩
/-! ### repr -/
def rRepr (K : PySem.W.Frag) : List V → Hp → VK → Prop := fun xs H Q => ∃ x d, xs = [x] ∧ Dp K H x d ∧ d.showable = true ∧ SeqAt.shaped d = true ∧ d.shown.length ≤ sizeLine ∧ Q (.str d.shown) H
theorem dp_nodict : ∀ {K : PySem.W.Frag} {H : Hp} {v : V} {d : PyData}, Dp K H v d → d.hasDict = true → False := by
  intro K H v d h
  refine Dp.rec (motive_1 := fun v d _ => d.hasDict = true → False) (motive_2 := fun vs ds _ => PyData.hasDictAll ds = true → False) ?_ ?_ ?_ ?_ ?_ ?_ ?_ ?_ h
  · intro z; simp [PyData.hasDict] at z
  · intro b z; simp [PyData.hasDict] at z
  · intro i z; simp [PyData.hasDict] at z
  · intro x z; simp [PyData.hasDict] at z
  · intro a xs ds _ _ ih z; exact ih (by simpa [PyData.hasDict] using z)
  · intro a xs ds _ _ ih z; exact ih (by simpa [PyData.hasDict] using z)
  · intro z; simp [PyData.hasDictAll] at z
  · intro v vs d ds _ _ ih1 ih2 z
    simp only [PyData.hasDictAll, Bool.or_eq_true] at z
    exact z.elim ih1 ih2
theorem call_reprD (hg : X.A.guards = some []) (hu : X.A.units + 70 < cLine) : CallR X (.builtin "repr") (rRepr X.K) := by
  intro pins s σ H xs us Q I r h
  obtain ⟨x, d, rfl, hd, hs, sd, hz, q⟩ := h
  obtain ⟨u, rfl, ru⟩ := vals1 r
  obtain ⟨as, rd⟩ := Dp.reads I d x u hd ru
  have fin : ∀ h' (t : Tok) tk, (∀ b o, s.heap.get? b = some o → h'.get? b = some o) → EP X pins σ Q (.str d.shown t) { s with heap := h', toks := tk } := fun h' t tk k => ⟨.str d.shown, H, I.kept k, ⟨t, rfl⟩, q⟩
  have fin0 : EP X pins σ Q (.str d.shown s.toks) { s with toks := s.toks + 1 } := fin s.heap s.toks (s.toks + 1) fun _ _ z => z
  cases hd with
  | non => cases (show u = Value.none from ru); exact PySem.P.repr_of_none fin0
  | bl b => cases (show u = Value.bool b from ru); exact PySem.P.repr_of_bool fin0
  | int i =>
    obtain ⟨t, e⟩ := (show ∃ t, u = Value.int i t from ru)
    cases e
    exact PySem.P.repr_of_int (of_decide_eq_true hs) fin0
  | str z =>
    obtain ⟨t, e⟩ := (show ∃ t, u = Value.str z t from ru)
    cases e
    exact PySem.P.repr_of_str fin0 hz
  | @lst a vs ds h1 h2 =>
    cases (show u = Value.ref a from ru)
    have dep := SeqAt.depth_of_shaped sd
    exact PySem.repr_of_reads' rd hs (fun z => (dp_nodict (.lst h1 h2) z).elim) hg (by omega) (fun _ _ z => z) fin hz
  | @tup a vs ds h1 h2 =>
    cases (show u = Value.ref a from ru)
    have dep := SeqAt.depth_of_shaped sd
    exact PySem.repr_of_reads' rd hs (fun z => (dp_nodict (.tup h1 h2) z).elim) hg (by omega) (fun _ _ z => z) fin hz
end
end Mp
end

section
set_option Elab.async false
set_option linter.all false
set_option maxRecDepth 100000
set_option maxHeartbeats 400000
set_option autoImplicit false
/-! Mp9: soundness, subscripts, methods, builtins: from the interpreter's words. -/
namespace Mp
open PySem PySem.Spec L2
section
variable {K : PySem.W.Frag} {mg : Str → Option Value} {Xx : Addr → Prop} {m m' : List Addr} {S S' : Store} {H H' : Hp}
theorem rws_get {ws : List W} {vs : List V} (r : Rws K Xx m S H ws vs) : ∀ {i : Nat} {w : W}, ws[i]? = some w → ∃ v, vs[i]? = some v ∧ Rw K Xx m S H w v := by
  induction r with
  | nil => intro i w e; simp at e
  | @cons a b as bs h t ih =>
    intro i w e
    cases i with
    | zero => simp at e; subst e; exact ⟨b, by simp, h⟩
    | succ i => simp at e; obtain ⟨v, e1, e2⟩ := ih e; exact ⟨v, by simpa using e1, e2⟩
theorem atI_ws {ws : List W} {vs : List V} (r : Rws K Xx m S H ws vs) {k : Int} {w : W} (e : atI ws k = some w) : ∃ v, atI vs k = some v ∧ Rw K Xx m S H w v := by
  unfold atI at e ⊢
  rw [rws_len r] at e
  cases q : ixN vs.length k with
  | none => rw [q] at e; cases e
  | some j =>
    rw [q] at e
    exact rws_get r e
theorem datOf_ok {w : W} {d : PyData} {v : V} (e : datOf w = some d) (r : Rw K Xx m S H w v) : Rp (LX Xx m S) H d v := by
  unfold datOf at e
  split at e
  · cases e; exact r
  · cases e
theorem itemOf_ok (s : Sim K Xx m S H) {x i : W} {v u : V} {Q : V → Hp → Prop} {E : XK} (rx : Rw K Xx m S H x v) (ri : Rw K Xx m S H i u)
    (p : Post K mg Xx (Rw K Xx) m S H (itemOf x i S) Q E) : rItem K v u H Q := by
  unfold itemOf at p
  split at p
  · rename_i n o hl
    obtain ⟨a, ho, eu, ew, en, ea, eh, ro⟩ := liveAt_ok s rx hl
    split at p
    · split at p
      · rename_i d hd
        split at p
        · rename_i r hr
          obtain ⟨H1, ho1, c, s1, pv, eh1, ro1⟩ := conv_ok s d en ea eh ro
          obtain ⟨ov, g, rr⟩ := askD_ok eh1 ro1 hr (datOf_ok hd (Rw.mono pv i u ri))
          cases ov with
          | none => exact (show False from rr).elim
          | some z => exact .inr ⟨a, z, H1, eu, c, g, p z H1 m s1 pv rr⟩
        · exact p.elim
      · exact p.elim
    · split at p
      · rename_i k b ws hk hs
        split at p
        · rename_i w hw
          obtain ⟨a', vs, ev, h1, h2, rs⟩ := seqOf_ok s rx hs
          obtain ⟨z, ez, rz⟩ := atI_ws rs hw
          have q := p z H m s Pv.refl rz
          cases b with
          | true => exact .inl (.inl ⟨a', vs, k, z, ev, asInt_ok hk ri, h1 rfl, ez, q⟩)
          | false => exact .inl (.inr (.inl ⟨a', vs, k, z, ev, asInt_ok hk ri, h2 rfl, ez, q⟩))
        · exact p.elim
      · exact p.elim
  · split at p
    · rename_i k hk
      split at p
      · rename_i z zh
        split at p
        · rename_i hr
          split at p
          · rename_i c hc
            have ev := rp_str rx
            exact .inl (.inr (.inr ⟨z, k, c, ev, asInt_ok hk ri, roomy_le hr, hc, p _ H m s Pv.refl (rw_str _)⟩))
          · exact p.elim
        · exact p.elim
      · split at p
        · rename_i b ws hs
          split at p
          · rename_i w hw
            obtain ⟨a', vs, ev, h1, h2, rs⟩ := seqOf_ok s rx hs
            obtain ⟨z, ez, rz⟩ := atI_ws rs hw
            have q := p z H m s Pv.refl rz
            cases b with
            | true => exact .inl (.inl ⟨a', vs, k, z, ev, asInt_ok hk ri, h1 rfl, ez, q⟩)
            | false => exact .inl (.inr (.inl ⟨a', vs, k, z, ev, asInt_ok hk ri, h2 rfl, ez, q⟩))
          · exact p.elim
        · exact p.elim
    · exact p.elim
theorem rws_drop : ∀ (n : Nat) {ws : List W} {vs : List V}, Rws K Xx m S H ws vs → Rws K Xx m S H (ws.drop n) (vs.drop n)
  | 0, _, _, r => r
  | _ + 1, _, _, .nil => .nil
  | n + 1, _, _, .cons _ t => rws_drop n t
theorem rws_take : ∀ (n : Nat) {ws : List W} {vs : List V}, Rws K Xx m S H ws vs → Rws K Xx m S H (ws.take n) (vs.take n)
  | 0, _, _, _ => .nil
  | _ + 1, _, _, .nil => .nil
  | n + 1, _, _, .cons h t => .cons h (rws_take n t)
theorem cutW_ok {ws : List W} {vs : List V} (r : Rws K Xx m S H ws vs) (lo hi : Option Int) : Rws K Xx m S H (cutW ws lo hi) (cutV vs lo hi) := by
  unfold cutW cutV
  rw [rws_len r]
  exact rws_take _ (rws_drop _ r)
def rSlice (K : PySem.W.Frag) : V → Option Int → Option Int → Hp → VK → Prop := fun x lo hi H Q => rSlL K x lo hi H Q ∨ rSlT K x lo hi H Q
theorem sliceOf_ok (s : Sim K Xx m S H) {live : Bool} {x : W} {v : V} {lo hi : Option Int} {Q : V → Hp → Prop} {E : XK} (rx : Rw K Xx m S H x v)
    (p : Post K mg Xx (Rw K Xx) m S H (sliceOf live x lo hi S) Q E) : rSlice K v lo hi H Q := by
  unfold sliceOf at p
  split at p
  · rename_i ws hs
    obtain ⟨a, vs, ev, h1, h2, rs⟩ := seqOf_ok s rx hs
    exact .inl ⟨a, vs, ev, h1 rfl, newList_ok s (cutW_ok rs lo hi) p⟩
  · rename_i ws hs
    obtain ⟨a, vs, ev, h1, h2, rs⟩ := seqOf_ok s rx hs
    split at p
    · exact p.elim
    · rename_i hn
      rw [rws_len rs] at hn
      split at p
      · rename_i ds hd
        exact .inr ⟨a, vs, ev, h2 rfl, hn, newTup_ok s (allDat_ok hd (cutW_ok rs lo hi)) p⟩
      · exact p.elim
  · exact p.elim
/-- into a live object -/
theorem inside_res {n : Nat} {w : W} : (∃ x S', inside n w S = .ok x S') ∨ inside n w S = .stuck := by
  cases w with
  | dat y => exact .inl ⟨_, _, rfl⟩
  | con y => exact .inr rfl
  | obj i =>
    unfold inside
    dsimp only
    split
    · exact .inl ⟨_, _, rfl⟩
    · unfold Mp.bnd
      rcases give_res (w := .obj i) (S := S) with ⟨x, S', q⟩ | q
      · rw [q]; exact .inl ⟨_, _, rfl⟩
      · rw [q]; exact .inr rfl
theorem inside_ok (s : Sim K Xx m S H) {n : Nat} {w x : W} {v : V} (r : Rw K Xx m S H w v) (e : inside n w S = .ok x S') :
    Sim K Xx m S' H ∧ Pv m S H m S' H ∧ Rw K Xx m S' H x v ∧ x.below n = true := by
  cases w with
  | dat y => cases e; exact ⟨s, Pv.refl, r, rfl⟩
  | con y => cases e
  | obj i =>
    unfold inside at e
    dsimp only at e
    split at e
    · rename_i hi
      cases e
      exact ⟨s, Pv.refl, r, decide_eq_true hi⟩
    · unfold Mp.bnd at e
      rcases give_res (w := .obj i) (S := S) with ⟨y, S1, q⟩ | q
      · rw [q] at e
        cases e
        obtain ⟨s1, p1, q1⟩ := give_ok s r q
        exact ⟨s1, p1, q1, rfl⟩
      · rw [q] at e; cases e
theorem rws_set {ws : List W} {vs : List V} (r : Rws K Xx m S H ws vs) : ∀ (j : Nat) {w : W} {v : V}, Rw K Xx m S H w v → Rws K Xx m S H (ws.set j w) (vs.set j v) := by
  induction r with
  | nil => intro j w v h; exact .nil
  | cons a t ih =>
    intro j w v h
    cases j with
    | zero => exact .cons h t
    | succ j => exact .cons a (ih j h)
theorem all_set {ws : List W} {p : W → Bool} (h : ws.all p = true) {w : W} (hw : p w = true) (j : Nat) : (ws.set j w).all p = true := by
  rw [List.all_eq_true] at h ⊢
  intro x hx
  rcases List.mem_or_eq_of_mem_set hx with h1 | h1
  · exact h x h1
  · subst h1; exact hw
/-- the object at n behind a move of something else -/
theorem kept_at {n : Nat} {o : Ob} {a : Addr} (s1 : Sim K Xx m S' H) (e : S'[n]? = some (some o)) (ea : m[n]? = some a) : ∃ ho, H a = some ho ∧ Ro K Xx m S' H o ho := by
  obtain ⟨b, ho, e1, e2, r⟩ := s1.ob n o e
  rw [ea] at e1; cases e1
  exact ⟨ho, e2, r⟩
end
end Mp
end

section
set_option Elab.async false
set_option linter.all false
set_option maxRecDepth 100000
set_option maxHeartbeats 400000
set_option autoImplicit false
/-! Mp10: soundness, stores into objects, methods, builtins. -/
namespace Mp
open PySem PySem.Spec L2
section
variable {K : PySem.W.Frag} {mg : Str → Option Value} {Xx : Addr → Prop} {m m' : List Addr} {S S' : Store} {H H' : Hp}
abbrev RU : List Addr → Store → Hp → Unit → Unit → Prop := fun _ _ _ _ _ => True
theorem isDict_lst {o : Ob} (h : ∀ ws, o = .lst ws → False) {ho : HO} (r : Ro K Xx m S H o ho) : (∃ kvs, ho = .dK kvs) ∨ ∃ kvs, ho = .dT kvs := by
  cases r with
  | lst r => exact (h _ rfl).elim
  | dk r => exact .inl ⟨_, rfl⟩
  | dt r => exact .inr ⟨_, rfl⟩
theorem sizeD_conv (o : Ob) (d : PyData) : sizeD (conv o d) = sizeD o := by
  rcases conv_cases o d with q | ⟨q1, q2⟩ | ⟨q1, q2⟩
  · rw [q]
  · rw [q2, q1]; rfl
  · rw [q2, q1]; rfl
theorem setItem_ok (s : Sim K Xx m S H) {x i w : W} {v u z : V} {Q : Unit → Hp → Prop} {E : XK} (rx : Rw K Xx m S H x v) (ri : Rw K Xx m S H i u) (rw' : Rw K Xx m S H w z)
    (p : Post K mg Xx RU m S H (setItem x i w S) Q E) : rSetI v u z H (fun H' => Q () H') := by
  unfold setItem at p
  split at p
  · rename_i n ws hl
    obtain ⟨a, ho, ev, ew, en, ea, eh, ro⟩ := liveAt_ok s rx hl
    split at p
    · rename_i k hk
      split at p
      · rename_i j hj
        rcases inside_res (n := n) (w := w) (S := S) with ⟨y, S1, q⟩ | q
        · rw [q] at p
          dsimp only at p
          obtain ⟨s1, p1, r1, lo⟩ := inside_ok s rw' q
          split at p
          · rename_i ws1 e1
            cases ro with
            | @lst _ vs rs =>
              refine .inl ⟨a, vs, k, j, ev, asInt_ok hk ri, eh, by rw [← rws_len rs]; exact hj, ?_⟩
              exact p () _ m (s1.write e1 ea (all_set (s.low n _ en) lo j) (.lst (rws_set (Rws.mono p1 rs) j r1))) (p1.trans (Pv.write e1 ea)) trivial
          · exact p.elim
        · rw [q] at p; exact p.elim
      · exact p.elim
    · exact p.elim
  · rename_i n o hn hl
    obtain ⟨a, ho, ev, ew, en, ea, eh, ro⟩ := liveAt_ok s rx hl
    split at p
    · rename_i d hd
      split at p
      · rename_i hr
        split at p
        · rename_i wd
          split at p
          · rename_i o' ho'
            obtain ⟨H1, ho1, c, s1, pv, eh1, ro1⟩ := conv_ok s d en ea eh ro
            have hn' : n < S.length := (List.getElem?_eq_some_iff.mp en).1
            obtain ⟨H2, g, s2, p2⟩ := putD_ok s1 (List.getElem?_set_self hn') ea eh1 ro1 (by rw [sizeD_conv]; exact roomy_lt hr) ho' (datOf_ok hd (Rw.mono pv i u ri)) (Rw.mono pv _ z rw') rfl
            rw [List.set_set] at s2 p2
            exact .inr ⟨a, H1, H2, ev, c, g, p () H2 m s2 (pv.trans p2) trivial⟩
          · exact p.elim
        · exact p.elim
      · exact p.elim
    · exact p.elim
  · exact p.elim
/-- the receiver -/
theorem recv_ok (s : Sim K Xx m S H) {f : Str} {x : W} {v : V} {Q : Unit → Hp → Prop} {E : XK} (rx : Rw K Xx m S H x v) (p : Post K mg Xx RU m S H (recv f x S) Q E) :
    (mKind f = some true ∧ tyV K "list" v H ∨ mKind f = some false ∧ tyV K "dict" v H) ∧ Q () H := by
  unfold recv at p
  split at p
  · rename_i hk
    split at p
    · rename_i ws hs
      obtain ⟨a, vs, ev, h1, _, _⟩ := seqOf_ok s rx hs
      subst ev
      exact ⟨.inl ⟨hk, .inl ⟨rfl, vs, h1 rfl⟩⟩, p () H m s Pv.refl trivial⟩
    · exact p.elim
  · rename_i hk
    split at p
    · rename_i n o hl
      split at p
      · rename_i hd
        obtain ⟨a, ho, ev, ew, en, ea, eh, ro⟩ := liveAt_ok s rx hl
        subst ev
        refine ⟨.inr ⟨hk, .inr (.inr (.inl ⟨rfl, ?_⟩))⟩, p () H m s Pv.refl trivial⟩
        rcases isDict_lst (fun ws e => by subst e; cases hd) ro with ⟨kvs, e⟩ | ⟨kvs, e⟩
        · exact .inl ⟨kvs, by rw [eh, e]⟩
        · exact .inr ⟨kvs, by rw [eh, e]⟩
      · exact p.elim
    · exact p.elim
  · exact p.elim
def rMeth (K : PySem.W.Frag) (f : Str) : V → List V → Hp → VK → Prop := fun x xs H Q =>
  (f = "append" ∧ rAppend x xs H Q) ∨ (f = "pop" ∧ rPop x xs H Q) ∨ (f = "index" ∧ rIndexD K x xs H Q) ∨ (f = "setdefault" ∧ rSetd x xs H Q) ∨ (f = "get" ∧ rGet x xs H Q)
theorem findIdx_spec {ds : List PyData} {p : PyData → Bool} {j : Nat} (h : ds.findIdx? p = some j) : ∃ z, ds[j]? = some z ∧ p z = true ∧ ∀ (i : Nat) (z' : PyData), i < j → ds[i]? = some z' → p z' = false := by
  rw [List.findIdx?_eq_some_iff_getElem] at h
  obtain ⟨hj, h1, h2⟩ := h
  refine ⟨ds[j], List.getElem?_eq_getElem hj, h1, fun i z' hi e => ?_⟩
  have hil : i < ds.length := Nat.lt_trans hi hj
  rw [List.getElem?_eq_getElem hil] at e
  cases e
  have q := h2 i hi
  revert q
  cases p ds[i] <;> simp
theorem idxE_ok (s : Sim K Xx m S H) {f : Str} {x : W} {args : List W} {v : V} {vs : List V} {Q : V → Hp → Prop} {E : XK} (rx : Rw K Xx m S H x v) (ra : Rws K Xx m S H args vs)
    (p : Post K mg Xx (Rw K Xx) m S H (idxE f x args S) Q E) : rMeth K f v vs H Q := by
  unfold idxE at p
  split at p
  · rename_i hf
    split at p
    · rename_i w
      cases ra with
      | @cons _ y _ _ ry r2 =>
        cases r2
        split at p
        · rename_i ds d h1 h2
          split at p
          · rename_i hc
            split at p
            · rename_i j hj
              obtain ⟨z, ez, hz, hno⟩ := findIdx_spec hj
              have d1 := view1_ok s rx h1
              have d2 := view1_ok s ry h2
              cases d1 with
              | @lst a xs _ q1 q2 =>
                exact .inr (.inr (.inl ⟨hf, a, y, d, ds, j, z, rfl, rfl, .lst q1 q2, d2, hc.2, hc.1, ez, hz, hno, p _ H m s Pv.refl (rw_int _)⟩))
            · exact p.elim
          · exact p.elim
        · exact p.elim
    · exact p.elim
  · exact p.elim
theorem method_ok (s : Sim K Xx m S H) {f : Str} {x : W} {args : List W} {v : V} {vs : List V} {Q : V → Hp → Prop} {E : XK} (rx : Rw K Xx m S H x v) (ra : Rws K Xx m S H args vs)
    (p : Post K mg Xx (Rw K Xx) m S H (method x f args S) Q E) : rMeth K f v vs H Q := by
  unfold method at p
  split at p
  · rename_i n ws hl
    obtain ⟨a, ho, ev, ew, en, ea, eh, ro⟩ := liveAt_ok s rx hl
    have low := s.low n _ en
    split at p
    · rename_i hf
      split at p
      · rename_i w
        cases ra with
        | @cons _ u _ _ r1 r2 =>
          cases r2
          split at p
          · rename_i hr
            split at p
            · cases ro with
              | @lst _ us rs =>
                refine .inl ⟨hf, a, us, u, ev, rfl, eh, by rw [← rws_len rs]; exact roomy_lt hr, ?_⟩
                refine p _ _ m (s.write en ea ?_ (.lst (rws_append rs (.cons r1 .nil)))) (Pv.write en ea) rw_none
                show (List.all _ _) = true
                rw [List.all_append, (show List.all ws (W.below n) = true from low)]; rfl
            · rcases inside_res (n := n) (w := w) (S := S) with ⟨y, S1, q⟩ | q
              · rw [q] at p
                dsimp only at p
                obtain ⟨s1, p1, ry, lo⟩ := inside_ok s r1 q
                split at p
                · rename_i ws1 e1
                  cases ro with
                  | @lst _ us rs =>
                    refine .inl ⟨hf, a, us, u, ev, rfl, eh, by rw [← rws_len rs]; exact roomy_lt hr, ?_⟩
                    refine p _ _ m (s1.write e1 ea ?_ (.lst (rws_append (Rws.mono p1 rs) (.cons ry .nil)))) (p1.trans (Pv.write e1 ea)) rw_none
                    show (List.all _ _) = true
                    rw [List.all_append, (show List.all ws (W.below n) = true from low)]
                    simp [lo]
                · exact p.elim
              · rw [q] at p; exact p.elim
          · exact p.elim
      · exact p.elim
    · split at p
      · rename_i hf
        split at p
        · cases ra
          split at p
          · rename_i w hw
            cases ro with
            | @lst _ us rs =>
              have hlen := rws_len rs
              obtain ⟨z, ez, rz⟩ := rws_get rs hw
              refine .inr (.inl ⟨hf, a, us, z, ev, rfl, eh, by rw [← hlen]; exact ez, ?_⟩)
              have hd : ∀ {ws : List W} {us : List V}, Rws K Xx m S H ws us → Rws K Xx m S H ws.dropLast us.dropLast := by
                intro ws us r
                rw [List.dropLast_eq_take, List.dropLast_eq_take, rws_len r]
                exact rws_take _ r
              refine p z _ m (s.write en ea ?_ (.lst (hd rs))) (Pv.write en ea) (Rw.mono (Pv.write en ea) w z rz)
              show (List.all _ _) = true
              refine List.all_eq_true.mpr fun y hy => List.all_eq_true.mp (show List.all ws (W.below n) = true from low) y (List.dropLast_subset _ hy)
          · exact p.elim
        · exact p.elim
      · exact idxE_ok s rx ra p
  · rename_i n o hn hl
    obtain ⟨a, ho, ev, ew, en, ea, eh, ro⟩ := liveAt_ok s rx hl
    have hn' : n < S.length := (List.getElem?_eq_some_iff.mp en).1
    split at p
    · rename_i hf
      split at p
      · rename_i d dv
        cases ra with
        | @cons _ y _ _ ry r2 =>
          cases r2 with
          | @cons _ z _ _ rz r3 =>
            cases r3
            split at p
            · rename_i hr
              obtain ⟨H1, ho1, c, s1, pv, eh1, ro1⟩ := conv_ok s d en ea eh ro
              have hz : sizeD (conv o d) < sizeLine := by rw [sizeD_conv]; exact roomy_lt hr
              have ry1 : Rp (LX Xx m _) H1 d y := Rw.mono pv (.dat d) y ry
              have rz1 := Rw.mono pv (.dat dv) z rz
              refine .inr (.inr (.inr (.inl ⟨hf, a, H1, y, z, ev, rfl, c, ?_⟩)))
              cases hr1 : askD (conv o d) d with
              | none => rw [hr1] at p; exact p.elim
              | some r =>
                rw [hr1] at p
                obtain ⟨ov, g, rr⟩ := askD_ok eh1 ro1 hr1 ry1
                have put : ∀ o', putD (conv o d) d (.dat dv) = some o' → ∃ H2, DPut H1 a y z H2 ∧ Sim K Xx m (S.set n (some o')) H2 ∧ Pv m S H m (S.set n (some o')) H2 := fun o' ho' => by
                  obtain ⟨H2, g2, s2, p2⟩ := putD_ok s1 (List.getElem?_set_self hn') ea eh1 ro1 hz ho' ry1 rz1 rfl
                  rw [List.set_set] at s2 p2
                  exact ⟨H2, g2, s2, pv.trans p2⟩
                rcases g with ⟨kvs, k, e, ey, l⟩ | ⟨kvs, k, b, e, ey, eb, l⟩
                · rcases e with e | ⟨of, e⟩
                  · have hl1 : kvs.length < sizeLine := by
                      rcases sizeD_ok ro1 with ⟨q, q1, q2⟩ | ⟨q, q1, q2⟩ | ⟨q, q1, q2⟩
                      · rw [eh1, q1] at e; cases e; omega
                      · rw [eh1, q1] at e; cases e
                      · rw [eh1, q1] at e; cases e
                    refine .inl ⟨kvs, k, e, ey, hl1, fun w hw => ?_, fun hw => ?_⟩
                    · have l' := l.trans hw
                      subst l'
                      cases r with
                      | none => exact (show False from rr).elim
                      | some r0 => exact p w H1 m s1 pv rr
                    · have l' := l.trans hw
                      subst l'
                      cases r with
                      | some r0 => exact (show False from rr).elim
                      | none =>
                        dsimp only at p
                        split at p
                        · rename_i o' ho'
                          obtain ⟨H2, g2, s2, p2⟩ := put o' ho'
                          have q := p z H2 m s2 p2 (Rw.mono p2 (.dat dv) z rz)
                          rcases g2 with ⟨kvs', k', e', ey', _, eH⟩ | ⟨kvs', k', b', e', _⟩
                          · rw [e] at e'; cases e'
                            have ek : k = k' := by
                              rw [ey] at ey'
                              cases k <;> cases k' <;> simp [kV] at ey' <;> first | rw [ey'] | exact ey'.elim
                            subst ek
                            rw [eH] at q; exact q
                          · rw [e] at e'; cases e'
                        · exact p.elim
                  · rw [eh1] at e
                    have e := Option.some.inj e
                    subst e
                    rcases sizeD_ok ro1 with ⟨q, q1, _⟩ | ⟨q, q1, _⟩ | ⟨q, q1, _⟩ <;> cases q1
                · rcases e with e | ⟨of, e⟩
                  · have hl1 : kvs.length < sizeLine := by
                      rcases sizeD_ok ro1 with ⟨q, q1, q2⟩ | ⟨q, q1, q2⟩ | ⟨q, q1, q2⟩
                      · rw [eh1, q1] at e; cases e
                      · rw [eh1, q1] at e; cases e; omega
                      · rw [eh1, q1] at e; cases e
                    refine .inr ⟨kvs, k, b, e, ey, eb, hl1, fun w hw => ?_, fun hw => ?_⟩
                    · have l' := l.trans hw
                      subst l'
                      cases r with
                      | none => exact (show False from rr).elim
                      | some r0 => exact p w H1 m s1 pv rr
                    · have l' := l.trans hw
                      subst l'
                      cases r with
                      | some r0 => exact (show False from rr).elim
                      | none =>
                        dsimp only at p
                        split at p
                        · rename_i o' ho'
                          obtain ⟨H2, g2, s2, p2⟩ := put o' ho'
                          have q := p z H2 m s2 p2 (Rw.mono p2 (.dat dv) z rz)
                          rcases g2 with ⟨kvs', k', e', _⟩ | ⟨kvs', k', b', e', ey', eb', _, eH⟩
                          · rw [e] at e'; cases e'
                          · rw [e] at e'; cases e'
                            rw [ey] at ey'
                            cases ey'
                            rw [eb] at eb'
                            have ek : k.map kV = k'.map kV := by injection eb' with z; injection z
                            have ek : k = k' := (List.map_inj_right (fun x y hxy => by
                              cases x <;> cases y <;> simp [kV] at hxy <;> first | rw [hxy] | exact hxy.elim)).mp ek
                            subst ek
                            rw [eH] at q; exact q
                        · exact p.elim
                  · rw [eh1] at e
                    have e := Option.some.inj e
                    subst e
                    rcases sizeD_ok ro1 with ⟨q, q1, _⟩ | ⟨q, q1, _⟩ | ⟨q, q1, _⟩ <;> cases q1
            · exact p.elim
      · exact p.elim
    · split at p
      · rename_i hf
        split at p
        · rename_i d
          cases ra with
          | @cons _ y _ _ ry r2 =>
            cases r2
            obtain ⟨H1, ho1, c, s1, pv, eh1, ro1⟩ := conv_ok s d en ea eh ro
            split at p
            · rename_i r hr1
              obtain ⟨ov, g, rr⟩ := askD_ok eh1 ro1 hr1 (Rw.mono pv (.dat d) y ry)
              refine .inr (.inr (.inr (.inr ⟨hf, a, ov, H1, ev, c, .inl ⟨y, rfl, g, ?_⟩⟩)))
              refine p _ H1 m s1 pv ?_
              cases r <;> cases ov <;> first | exact rw_none | exact rr | exact (show False from rr).elim
            · exact p.elim
        · rename_i d w
          cases ra with
          | @cons _ y _ _ ry r2 =>
            cases r2 with
            | @cons _ z _ _ rz r3 =>
              cases r3
              obtain ⟨H1, ho1, c, s1, pv, eh1, ro1⟩ := conv_ok s d en ea eh ro
              split at p
              · rename_i r hr1
                obtain ⟨ov, g, rr⟩ := askD_ok eh1 ro1 hr1 (Rw.mono pv (.dat d) y ry)
                refine .inr (.inr (.inr (.inr ⟨hf, a, ov, H1, ev, c, .inr ⟨y, z, rfl, g, ?_⟩⟩)))
                refine p _ H1 m s1 pv ?_
                cases r <;> cases ov <;> first | exact Rw.mono pv w z rz | exact rr | exact (show False from rr).elim
              · exact p.elim
        · exact p.elim
      · exact p.elim
  · exact idxE_ok s rx ra p
end
end Mp
end

section
set_option Elab.async false
set_option linter.all false
set_option maxRecDepth 100000
set_option maxHeartbeats 400000
set_option autoImplicit false
/-! Mp11: soundness, builtins by values. -/
namespace Mp
open PySem PySem.Spec L2
abbrev RC := List V → Hp → VK → Prop
def rLen (K : PySem.W.Frag) : RC := fun xs H Q =>
  (∃ p ys, xs = [V.ref p] ∧ (SqL K H p ys ∨ SqT K H p ys) ∧ Q (.int ys.length) H) ∨ (∃ z, xs = [V.str z] ∧ z.length ≤ sizeLine ∧ Q (.int z.length) H) ∨
  (∃ a kvs, xs = [V.ref a] ∧ H a = some (.dK kvs) ∧ Q (.int kvs.length) H) ∨ rLenT xs H Q
def rInt : RC := fun xs H Q => ((∃ i, xs = [V.int i] ∧ Q (.int i) H) ∨ ∃ k, xs = [V.bl k] ∧ Q (.int (if k then 1 else 0)) H) ∨ ∃ a n, xs = [V.str a] ∧ PySem.intText? a = some n ∧ a.length ≤ 640 ∧ Q (.int n) H
def rAbs : RC := fun xs H Q => ∃ i : Int, xs = [V.int i] ∧ Q (.int (if i < 0 then -i else i)) H
def rList (K : PySem.W.Frag) : RC := fun xs H Q => ∃ p ys, xs = [V.ref p] ∧ (SqL K H p ys ∨ SqT K H p ys) ∧ ∀ l, H l = none → Q (.ref l) (upd H l (.lst ys))
def rTuple (K : PySem.W.Frag) : RC := fun xs H Q => ∃ p ys, xs = [V.ref p] ∧ ((SqL K H p ys ∧ ∀ l, H l = none → Q (.ref l) (upd H l (.tup ys))) ∨ (SqT K H p ys ∧ Q (.ref p) H))
section
variable {X : Cx}
theorem cr_len : CallR X (.builtin "len") (rLen X.K) := by
  intro pins s σ H xs us Q I r h
  rcases h with h | h | h | h
  · exact call_len_seq pins s σ H xs us Q I r h
  · exact call_len_str pins s σ H xs us Q I r h
  · exact call_lenD pins s σ H xs us Q I r h
  · exact call_len_dT pins s σ H xs us Q I r h
theorem cr_int : CallR X (.type "int") rInt := by
  intro pins s σ H xs us Q I r h
  rcases h with h | h
  · exact call_int1 pins s σ H xs us Q I r h
  · exact call_int_str pins s σ H xs us Q I r h
theorem cr_abs : CallR X (.builtin "abs") rAbs := call_abs
theorem cr_list : CallR X (.type "list") (rList X.K) := call_list_of
theorem cr_tuple : CallR X (.type "tuple") (rTuple X.K) := call_tuple_of
end
section
variable {K : PySem.W.Frag} {mg : Str → Option Value} {Xx : Addr → Prop} {m : List Addr} {S : Store} {H : Hp}
theorem rws1 {w : W} {vs : List V} (r : Rws K Xx m S H [w] vs) : ∃ v, vs = [v] ∧ Rw K Xx m S H w v := by
  cases r with
  | cons a t => cases t; exact ⟨_, rfl, a⟩
theorem lenV_ok (s : Sim K Xx m S H) {x : W} {v : V} {Q : V → Hp → Prop} {E : XK} (rx : Rw K Xx m S H x v)
    (p : Post K mg Xx (Rw K Xx) m S H (match seqOf S x with
        | some (_, ws) => Res.ok (.dat (.int (ws.length : Nat))) S
        | none => match liveAt S x with
          | some (_, o) => .ok (.dat (.int (sizeD o : Nat))) S
          | none => .stuck) Q E) : rLen K [v] H Q := by
  split at p
  · rename_i b ws e
    obtain ⟨a, vs, ev, h1, h2, rs⟩ := seqOf_ok s rx e
    subst ev
    have q := Post.ok p s Pv.refl (rw_int ((ws.length : Nat) : Int))
    rw [rws_len rs] at q
    refine .inl ⟨a, vs, rfl, ?_, q⟩
    cases b with
    | true => exact .inl (h1 rfl)
    | false => exact .inr (h2 rfl)
  · split at p
    · rename_i n o e
      obtain ⟨a, ho, ev, _, en, ea, eh, ro⟩ := liveAt_ok s rx e
      subst ev
      have q := Post.ok p s Pv.refl (rw_int ((sizeD o : Nat) : Int))
      rcases sizeD_ok ro with ⟨kvs, e1, e2⟩ | ⟨kvs, e1, e2⟩ | ⟨vs, e1, e2⟩
      · subst e1; rw [← e2] at q; exact .inr (.inr (.inl ⟨a, kvs, rfl, eh, q⟩))
      · subst e1; rw [← e2] at q; exact .inr (.inr (.inr ⟨a, kvs, rfl, eh, q⟩))
      · subst e1; rw [← e2] at q; exact .inl ⟨a, vs, rfl, .inl (SqL.of eh), q⟩
    · exact p.elim
theorem blt_len_ok (s : Sim K Xx m S H) {live : Bool} {ws : List W} {vs : List V} {Q : V → Hp → Prop} {E : XK} (rs : Rws K Xx m S H ws vs)
    (p : Post K mg Xx (Rw K Xx) m S H (blt live "len" ws S) Q E) : rLen K vs H Q := by
  unfold blt at p
  rw [if_pos rfl] at p
  split at p
  · rename_i x
    obtain ⟨v, ev, rx⟩ := rws1 rs
    subst ev
    split at p
    · rename_i z
      split at p
      · rename_i hz
        have rx : Rp _ _ _ _ := rx
        unfold Rp at rx
        subst rx
        exact .inr (.inl ⟨z, rfl, by have := roomy_le hz; omega, Post.ok p s Pv.refl (rw_int _)⟩)
      · exact p.elim
    · exact lenV_ok s rx p
  · exact p.elim
theorem blt_int_ok (s : Sim K Xx m S H) {live : Bool} {ws : List W} {vs : List V} {Q : V → Hp → Prop} {E : XK} (rs : Rws K Xx m S H ws vs)
    (p : Post K mg Xx (Rw K Xx) m S H (blt live "int" ws S) Q E) : rInt vs H Q := by
  unfold blt at p
  rw [if_neg (by decide), if_pos rfl] at p
  split at p
  · rename_i i
    obtain ⟨v, ev, rx⟩ := rws1 rs
    subst ev
    have rx : Rp _ _ _ _ := rx
    unfold Rp at rx
    subst rx
    exact .inl (.inl ⟨i, rfl, Post.ok p s Pv.refl (rw_int _)⟩)
  · rename_i b
    obtain ⟨v, ev, rx⟩ := rws1 rs
    subst ev
    have rx : Rp _ _ _ _ := rx
    unfold Rp at rx
    subst rx
    exact .inl (.inr ⟨b, rfl, Post.ok p s Pv.refl (rw_int _)⟩)
  · rename_i z
    obtain ⟨v, ev, rx⟩ := rws1 rs
    subst ev
    have ez := rp_str rx
    subst ez
    split at p
    · rename_i i e
      split at p
      · rename_i hz
        exact .inr ⟨z, i, rfl, e, hz, Post.ok p s Pv.refl (rw_int _)⟩
      · exact p.elim
    · exact p.elim
  · exact p.elim
theorem blt_abs_ok (s : Sim K Xx m S H) {live : Bool} {ws : List W} {vs : List V} {Q : V → Hp → Prop} {E : XK} (rs : Rws K Xx m S H ws vs)
    (p : Post K mg Xx (Rw K Xx) m S H (blt live "abs" ws S) Q E) : rAbs vs H Q := by
  unfold blt at p
  rw [if_neg (by decide), if_neg (by decide), if_pos rfl] at p
  split at p
  · rename_i i
    obtain ⟨v, ev, rx⟩ := rws1 rs
    subst ev
    have rx : Rp _ _ _ _ := rx
    unfold Rp at rx
    subst rx
    exact ⟨i, rfl, Post.ok p s Pv.refl (rw_int _)⟩
  · exact p.elim
theorem blt_list_ok (s : Sim K Xx m S H) {live : Bool} {ws : List W} {vs : List V} {Q : V → Hp → Prop} {E : XK} (rs : Rws K Xx m S H ws vs)
    (p : Post K mg Xx (Rw K Xx) m S H (blt live "list" ws S) Q E) : rList K vs H Q := by
  unfold blt at p
  rw [if_neg (by decide), if_neg (by decide), if_neg (by decide), if_pos rfl] at p
  split at p
  · rename_i x
    obtain ⟨v, ev, rx⟩ := rws1 rs
    subst ev
    split at p
    · rename_i b ws' e
      obtain ⟨a, ys, ev, h1, h2, rs'⟩ := seqOf_ok s rx e
      subst ev
      refine ⟨a, ys, rfl, ?_, newList_ok s rs' p⟩
      cases b with
      | true => exact .inl (h1 rfl)
      | false => exact .inr (h2 rfl)
    · exact p.elim
  · exact p.elim
theorem blt_tuple_ok (s : Sim K Xx m S H) {live : Bool} {ws : List W} {vs : List V} {Q : V → Hp → Prop} {E : XK} (rs : Rws K Xx m S H ws vs)
    (p : Post K mg Xx (Rw K Xx) m S H (blt live "tuple" ws S) Q E) : rTuple K vs H Q := by
  unfold blt at p
  rw [if_neg (by decide), if_neg (by decide), if_neg (by decide), if_neg (by decide), if_pos rfl] at p
  split at p
  · rename_i x
    obtain ⟨v, ev, rx⟩ := rws1 rs
    subst ev
    split at p
    · rename_i ws' e
      obtain ⟨a, ys, ev, h1, h2, rs'⟩ := seqOf_ok s rx e
      subst ev
      exact ⟨a, ys, rfl, .inr ⟨h2 rfl, Post.ok p s Pv.refl rx⟩⟩
    · rename_i ws' e
      split at p
      · rename_i ds e2
        obtain ⟨a, ys, ev, h1, h2, rs'⟩ := seqOf_ok s rx e
        subst ev
        exact ⟨a, ys, rfl, .inl ⟨h1 rfl, newTup_ok s (allDat_ok e2 rs') p⟩⟩
      · exact p.elim
    · exact p.elim
  · exact p.elim
theorem mapM_some {α β : Type} {f : α → Option β} : ∀ {ws : List α} {bs : List β}, ws.mapM f = some bs → ∀ {w : α} {r : List α}, ws = w :: r → ∃ b t, f w = some b ∧ r.mapM f = some t ∧ bs = b :: t := by
  intro ws bs e w r ew
  subst ew
  rw [List.mapM_cons] at e
  cases q : f w with
  | none => rw [q] at e; cases e
  | some b =>
    rw [q] at e
    cases q2 : r.mapM f with
    | none => rw [q2] at e; cases e
    | some t => rw [q2] at e; cases e; exact ⟨b, t, rfl, rfl, rfl⟩
theorem asBool_is {w : W} {b : Bool} (e : asBool w = some b) : w = .dat (.bool b) := by
  unfold asBool at e
  split at e
  · cases e; rfl
  · cases e
theorem asInt_is {w : W} {b : Int} (e : asInt w = some b) : w = .dat (.int b) := by
  unfold asInt at e
  split at e
  · cases e; rfl
  · cases e
theorem bools_ok : ∀ {ws : List W} {bs : List Bool} {vs : List V}, ws.mapM asBool = some bs → Rws K Xx m S H ws vs → vs = bs.map V.bl
  | [], bs, vs, e, r => by cases e; cases r; rfl
  | w :: ws, bs, vs, e, r => by
    obtain ⟨b, t, e1, e2, e3⟩ := mapM_some e rfl
    subst e3
    have := asBool_is e1
    subst this
    cases r with
    | cons r1 r2 =>
      have r1 : Rp _ _ _ _ := r1
      unfold Rp at r1
      subst r1
      rw [bools_ok e2 r2, List.map_cons]
theorem ints_ok : ∀ {ws : List W} {bs : List Int} {vs : List V}, asInts ws = some bs → Rws K Xx m S H ws vs → vs = bs.map V.int
  | [], bs, vs, e, r => by cases e; cases r; rfl
  | w :: ws, bs, vs, e, r => by
    unfold asInts at e
    cases q1 : asInt w with
    | none => rw [q1] at e; cases e
    | some b =>
      cases q2 : asInts ws with
      | none => rw [q1, q2] at e; cases e
      | some t =>
        rw [q1, q2] at e
        cases e
        have := asInt_is q1
        subst this
        cases r with
        | cons r1 r2 =>
          have r1 : Rp _ _ _ _ := r1
          unfold Rp at r1
          subst r1
          rw [ints_ok q2 r2, List.map_cons]
theorem blt_all_ok (s : Sim K Xx m S H) {live : Bool} {ws : List W} {vs : List V} {Q : V → Hp → Prop} {E : XK} (rs : Rws K Xx m S H ws vs)
    (p : Post K mg Xx (Rw K Xx) m S H (blt live "all" ws S) Q E) : rAll K vs H Q := by
  unfold blt at p
  rw [if_neg (by decide), if_neg (by decide), if_neg (by decide), if_neg (by decide), if_neg (by decide), if_pos rfl] at p
  split at p
  · rename_i x
    obtain ⟨v, ev, rx⟩ := rws1 rs
    subst ev
    split at p
    · rename_i ws' e
      split at p
      · rename_i bs e2
        obtain ⟨a, ys, ev, h1, h2, rs'⟩ := seqOf_ok s rx e
        subst ev
        have ey := bools_ok e2 rs'
        subst ey
        exact ⟨a, bs, rfl, h1 rfl, Post.ok p s Pv.refl (rw_bool _)⟩
      · exact p.elim
    · exact p.elim
  · exact p.elim
theorem blt_any_ok (s : Sim K Xx m S H) {live : Bool} {ws : List W} {vs : List V} {Q : V → Hp → Prop} {E : XK} (rs : Rws K Xx m S H ws vs)
    (p : Post K mg Xx (Rw K Xx) m S H (blt live "any" ws S) Q E) : rAny K vs H Q := by
  unfold blt at p
  rw [if_neg (by decide), if_neg (by decide), if_neg (by decide), if_neg (by decide), if_neg (by decide), if_neg (by decide), if_pos rfl] at p
  split at p
  · rename_i x
    obtain ⟨v, ev, rx⟩ := rws1 rs
    subst ev
    split at p
    · rename_i ws' e
      split at p
      · rename_i bs e2
        obtain ⟨a, ys, ev, h1, h2, rs'⟩ := seqOf_ok s rx e
        subst ev
        have ey := bools_ok e2 rs'
        subst ey
        exact ⟨a, bs, rfl, h1 rfl, Post.ok p s Pv.refl (rw_bool _)⟩
      · exact p.elim
    · exact p.elim
  · exact p.elim
theorem blt_repr_ok (s : Sim K Xx m S H) {live : Bool} {ws : List W} {vs : List V} {Q : V → Hp → Prop} {E : XK} (rs : Rws K Xx m S H ws vs)
    (p : Post K mg Xx (Rw K Xx) m S H (blt live "repr" ws S) Q E) : rRepr K vs H Q := by
  unfold blt at p
  rw [if_neg (by decide), if_neg (by decide), if_neg (by decide), if_neg (by decide), if_neg (by decide), if_neg (by decide), if_neg (by decide), if_pos rfl] at p
  split at p
  · rename_i x
    obtain ⟨v, ev, rx⟩ := rws1 rs
    subst ev
    split at p
    · rename_i d e
      split at p
      · rename_i hc
        obtain ⟨h1, h2, h3⟩ := hc
        exact ⟨v, d, rfl, view1_ok s rx e, h1, h2, by have := roomy_le h3; omega, Post.ok p s Pv.refl (rw_str _)⟩
      · exact p.elim
    · exact p.elim
  · exact p.elim
/-- isinstance(x, T) -/
theorem kit_name {t : String} {T : Str} {b : Bool} (ht : t = "NoneType" ∨ t = "bool" ∨ t = "int" ∨ t = "str" ∨ t = "list" ∨ t = "tuple" ∨ t = "dict") (e : isInst t T = some b) :
    ∃ T' : String, bootBuiltins T = some (.type T') ∧ PySem.W.kitOne K (.type t) (.type T') = some b := by
  unfold isInst at e
  by_cases h1 : T = "int"
  · subst h1; rw [if_pos rfl] at e; injection e with e; subst e
    exact ⟨"int", PyProof.Rows.boot_int, by rcases ht with rfl | rfl | rfl | rfl | rfl | rfl | rfl <;> exact kit_ty (by decide +kernel)⟩
  rw [if_neg h1] at e
  by_cases h2 : T = "bool"
  · subst h2; rw [if_pos rfl] at e; injection e with e; subst e
    exact ⟨"bool", PyProof.Rows.boot_bool, by rcases ht with rfl | rfl | rfl | rfl | rfl | rfl | rfl <;> exact kit_ty (by decide +kernel)⟩
  rw [if_neg h2] at e
  by_cases h3 : T = "str"
  · subst h3; rw [if_pos rfl] at e; injection e with e; subst e
    exact ⟨"str", PyProof.Rows.boot_str, by rcases ht with rfl | rfl | rfl | rfl | rfl | rfl | rfl <;> exact kit_ty (by decide +kernel)⟩
  rw [if_neg h3] at e
  by_cases h4 : T = "list"
  · subst h4; rw [if_pos rfl] at e; injection e with e; subst e
    exact ⟨"list", PyProof.Rows.boot_list, by rcases ht with rfl | rfl | rfl | rfl | rfl | rfl | rfl <;> exact kit_ty (by decide +kernel)⟩
  rw [if_neg h4] at e
  by_cases h5 : T = "tuple"
  · subst h5; rw [if_pos rfl] at e; injection e with e; subst e
    exact ⟨"tuple", PyProof.Rows.boot_tuple, by rcases ht with rfl | rfl | rfl | rfl | rfl | rfl | rfl <;> exact kit_ty (by decide +kernel)⟩
  rw [if_neg h5] at e
  by_cases h6 : T = "dict"
  · subst h6; rw [if_pos rfl] at e; injection e with e; subst e
    exact ⟨"dict", PyProof.Rows.boot_dict, by rcases ht with rfl | rfl | rfl | rfl | rfl | rfl | rfl <;> exact kit_ty (by decide +kernel)⟩
  rw [if_neg h6] at e
  cases e
theorem class_boot {T : Str} (h : classN T = true) : ∃ T' : String, bootBuiltins T = some (.type T') := by
  unfold classN at h
  simp only [Bool.or_eq_true, decide_eq_true_eq] at h
  rcases h with ((((e | e) | e) | e) | e) | e <;> subst e
  · exact ⟨_, PyProof.Rows.boot_int⟩
  · exact ⟨_, PyProof.Rows.boot_bool⟩
  · exact ⟨_, PyProof.Rows.boot_str⟩
  · exact ⟨_, PyProof.Rows.boot_list⟩
  · exact ⟨_, PyProof.Rows.boot_tuple⟩
  · exact ⟨_, PyProof.Rows.boot_dict⟩
theorem typeName_ok (s : Sim K Xx m S H) {x : W} {v : V} {t : String} (rx : Rw K Xx m S H x v) (e : typeName S x = some t) :
    (t = "NoneType" ∨ t = "bool" ∨ t = "int" ∨ t = "str" ∨ t = "list" ∨ t = "tuple" ∨ t = "dict") ∧ TyX K H v (.type t) := by
  unfold typeName at e
  split at e
  · cases e; have rx : Rp _ _ _ _ := rx; unfold Rp at rx; subst rx; exact ⟨by simp, .base .non⟩
  · cases e; have rx : Rp _ _ _ _ := rx; unfold Rp at rx; subst rx; exact ⟨by simp, .base (.bl _)⟩
  · cases e; have rx : Rp _ _ _ _ := rx; unfold Rp at rx; subst rx; exact ⟨by simp, .base (.int _)⟩
  · cases e; have rx : Rp _ _ _ _ := rx; unfold Rp at rx; subst rx; exact ⟨by simp, .base (.str _)⟩
  · cases e
    have rx : Rp _ _ _ _ := rx
    unfold Rp at rx
    obtain ⟨a, vs, ev, rd, _, rs⟩ := rx
    subst ev
    refine ⟨by simp, ?_⟩
    rcases rd with e | ⟨o, e⟩
    · exact .base (.lst e)
    · exact .base (.frz e)
  · cases e
    have rx : Rp _ _ _ _ := rx
    unfold Rp at rx
    obtain ⟨a, vs, ev, rd, _, rs⟩ := rx
    subst ev
    refine ⟨by simp, ?_⟩
    exact .base (.tup rd)
  · rename_i n
    obtain ⟨a, ea, ev⟩ := (show ∃ a, _ from rx)
    subst ev
    split at e
    · rename_i ws he
      cases e
      obtain ⟨a', ho, e1, e2, ro⟩ := s.ob _ _ he
      rw [ea] at e1; cases e1
      cases ro with
      | lst rs => exact ⟨by simp, .base (.lst e2)⟩
    · rename_i ws he
      cases e
      obtain ⟨a', ho, e1, e2, ro⟩ := s.ob _ _ he
      rw [ea] at e1; cases e1
      cases ro with
      | dk rs => exact ⟨by simp, .base (.dK e2)⟩
    · rename_i ws he
      cases e
      obtain ⟨a', ho, e1, e2, ro⟩ := s.ob _ _ he
      rw [ea] at e1; cases e1
      cases ro with
      | dt rs => exact ⟨by simp, .base (.dT e2)⟩
    · cases e
  · cases e
/-! ### list(range(n)), len(set(x)), x[::-1] -/
theorem rws_range (lo : Int) : ∀ (l : List Nat), Rws K Xx m S H (l.map fun (i : Nat) => W.dat (.int (lo + (i : Nat)))) (l.map fun (i : Nat) => V.int (lo + (i : Nat)))
  | [] => .nil
  | i :: l => .cons (rw_int _) (rws_range lo l)
theorem listRg_ok (s : Sim K Xx m S H) {live : Bool} {x : W} {v : V} {Q : V → Hp → Prop} {E : XK} (rx : Rw K Xx m S H x v)
    (p : Post K mg Xx (Rw K Xx) m S H (listRg live x S) Q E) : ∃ n : Int, v = .int n ∧ RgOk 0 n ∧ ∀ q, H q = none → Q (.ref q) (upd H q (.lst (rgV 0 n))) := by
  unfold listRg at p
  split at p
  · rename_i n
    split at p
    · rename_i hc
      have rx : Rp _ _ _ _ := rx
      unfold Rp at rx
      subst rx
      obtain ⟨h1, h2⟩ := hc
      unfold rgOk at h2
      simp only [Bool.and_eq_true, decide_eq_true_eq] at h2
      unfold roomy at h1
      have h1 := of_decide_eq_true h1
      refine ⟨n, rfl, ⟨by omega, by omega, h2.1, h2.2, by omega⟩, ?_⟩
      have r : Rws K Xx m S H (rangeL 0 n.toNat) (rgV 0 n) := by
        unfold rangeL rgV
        rw [Int.sub_zero]
        exact rws_range 0 _
      exact newList_ok s r p
    · exact p.elim
  · exact p.elim
theorem lenSet_ok (s : Sim K Xx m S H) {x : W} {v : V} {Q : V → Hp → Prop} {E : XK} (rx : Rw K Xx m S H x v)
    (p : Post K mg Xx (Rw K Xx) m S H (lenSet x S) Q E) : ∃ (l : Addr) (ns : List Int), v = .ref l ∧ SqL K H l (ns.map V.int) ∧ ns.length ≤ 4000 ∧ Q (.int (kindsOf ns : Nat)) H := by
  unfold lenSet at p
  split at p
  · rename_i ws e
    split at p
    · rename_i ns e2
      split at p
      · rename_i hz
        obtain ⟨a, ys, ev, h1, h2, rs'⟩ := seqOf_ok s rx e
        subst ev
        have ey := ints_ok e2 rs'
        subst ey
        exact ⟨a, ns, rfl, h1 rfl, hz, Post.ok p s Pv.refl (rw_int _)⟩
      · exact p.elim
    · exact p.elim
  · exact p.elim
theorem rws_rev {ws : List W} {vs : List V} (r : Rws K Xx m S H ws vs) : Rws K Xx m S H ws.reverse vs.reverse := by
  induction r with
  | nil => exact .nil
  | cons a t ih => rw [List.reverse_cons, List.reverse_cons]; exact rws_append ih (.cons a .nil)
theorem turned_ok (s : Sim K Xx m S H) {live : Bool} {x : W} {v : V} {Q : V → Hp → Prop} {E : XK} (rx : Rw K Xx m S H x v)
    (p : Post K mg Xx (Rw K Xx) m S H (turned live x S) Q E) : ∃ a xs, v = .ref a ∧ SqL K H a xs ∧ ∀ q, H q = none → Q (.ref q) (upd H q (.lst xs.reverse)) := by
  unfold turned at p
  split at p
  · rename_i ws e
    obtain ⟨a, ys, ev, h1, h2, rs'⟩ := seqOf_ok s rx e
    subst ev
    exact ⟨a, ys, rfl, h1 rfl, newList_ok s (rws_rev rs') p⟩
  · exact p.elim
end
end Mp
end

section
set_option Elab.async false
set_option linter.all false
set_option maxRecDepth 100000
set_option maxHeartbeats 400000
set_option autoImplicit false
/-! Mp12: soundness, expressions. -/
namespace Mp
open PySem PySem.Spec L2
theorem pe_weak {X : Cx} {e : Expr} {t t' : TE} (h : PE X e t) (hh : ∀ σ H Q, t' σ H Q → t σ H Q) : PE X e t' := ⟨fun pins s σ H Q I q => h.run pins s σ H Q I (hh σ H Q q)⟩
theorem pa_weak {X : Cx} {e : List Expr} {t t' : TA} (h : PA X e t) (hh : ∀ σ H Q, t' σ H Q → t σ H Q) : PA X e t' := ⟨fun pos pins s σ H Q I q => h.run pos pins s σ H Q I (hh σ H Q q)⟩
theorem pt_weak {X : Cx} {e : Expr} {t t' : TT} (h : PT X e t) (hh : ∀ σ H Q, t' σ H Q → t σ H Q) : PT X e t' := ⟨fun pins s σ H Q I q => h.run pins s σ H Q I (hh σ H Q q)⟩
theorem pw_weak {X : Cx} {e : Expr} {t t' : TT} (h : PW X e t) (hh : ∀ σ H Q, t' σ H Q → t σ H Q) : PW X e t' := ⟨fun w pins s σ H Q I q => h.run w pins s σ H Q I (hh σ H Q q)⟩
theorem po_weak {X : Cx} {e : Option Expr} {t t' : TO} (h : PO X e t) (hh : ∀ σ H Q, t' σ H Q → t σ H Q) : PO X e t' := ⟨fun pins s σ H Q I q => h.run pins s σ H Q I (hh σ H Q q)⟩
/-- the reading of a step of the interpreter: an expression's, a test's, a list's -/
def tX {α β : Type} (K : PySem.W.Frag) (mg : Str → Option Value) (Wx : WX) (R : (Addr → Prop) → List Addr → Store → Hp → α → β → Prop) (f : Slots → M α) (σ : St) (H : Hp) (Q : β → Hp → Prop) : Prop :=
  ∃ Xx g m S, Sim K Xx m S H ∧ Rg K Xx m S H g σ ∧ Post K mg Xx (R Xx) m S H (f g S) Q (WE Wx σ)
abbrev tE (K : PySem.W.Frag) (mg : Str → Option Value) (Wx : WX) (f : Slots → M W) : TE := tX K mg Wx (fun Xx => Rw K Xx) f
abbrev tT (K : PySem.W.Frag) (mg : Str → Option Value) (Wx : WX) (f : Slots → M Bool) : TT := tX K mg Wx (fun _ => RB) f
abbrev tL (K : PySem.W.Frag) (mg : Str → Option Value) (Wx : WX) (f : Slots → M (List W)) : TA := tX K mg Wx (fun Xx => Rws K Xx) f
section
variable {K : PySem.W.Frag} {mg : Str → Option Value} {Wx : WX} {α β γ δ : Type} {R : (Addr → Prop) → List Addr → Store → Hp → α → β → Prop} {R' : (Addr → Prop) → List Addr → Store → Hp → γ → δ → Prop} {σ : St} {H : Hp}
/-- one step, then what the rest asks -/
theorem tX.bnd {f : Slots → M α} {k : Slots → α → M γ} {Q : δ → Hp → Prop} (t : tX K mg Wx R' (fun g => bnd (f g) (k g)) σ H Q) :
    tX K mg Wx R f σ H fun y H1 => ∃ Xx g m1 S1 a, Sim K Xx m1 S1 H1 ∧ Rg K Xx m1 S1 H1 g σ ∧ R Xx m1 S1 H1 a y ∧ Post K mg Xx (R' Xx) m1 S1 H1 (k g a S1) Q (WE Wx σ) := by
  obtain ⟨Xx, g, m, S, s, rg, p⟩ := t
  exact ⟨Xx, g, m, S, s, rg, (Post.bnd p).mono fun y H1 ⟨a, S1, m1, s1, pv, r, q⟩ => ⟨Xx, g, m1, S1, a, s1, Rg.mono pv rg, r, q⟩⟩
/-- a step within, the values ahead of it kept -/
theorem step_in {R1 : List Addr → Store → Hp → γ → δ → Prop} {Xx : Addr → Prop} {g : Slots} {m : List Addr} {S : Store} {f : Slots → M α} {k : α → M γ} {Q : δ → Hp → Prop} (s : Sim K Xx m S H) (rg : Rg K Xx m S H g σ) (p : Post K mg Xx R1 m S H (Mp.bnd (f g) k S) Q (WE Wx σ)) :
    tX K mg Wx R f σ H fun y H1 => ∃ m1 S1 a, Sim K Xx m1 S1 H1 ∧ Rg K Xx m1 S1 H1 g σ ∧ Pv m S H m1 S1 H1 ∧ R Xx m1 S1 H1 a y ∧ Post K mg Xx R1 m1 S1 H1 (k a S1) Q (WE Wx σ) :=
  ⟨Xx, g, m, S, s, rg, (Post.bnd p).mono fun y H1 ⟨a, S1, m1, s1, pv, r, q⟩ => ⟨m1, S1, a, s1, Rg.mono pv rg, pv, r, q⟩⟩
theorem tX.mono {f : Slots → M α} {Q Q' : β → Hp → Prop} (t : tX K mg Wx R f σ H Q) (h : ∀ y H', Q y H' → Q' y H') : tX K mg Wx R f σ H Q' := by
  obtain ⟨Xx, g, m, S, s, rg, p⟩ := t
  exact ⟨Xx, g, m, S, s, rg, p.mono h⟩
theorem tX.imp {f f' : Slots → M α} {Q : β → Hp → Prop} (t : tX K mg Wx R f σ H Q) (h : ∀ g, f g = f' g) : tX K mg Wx R f' σ H Q := by
  obtain ⟨Xx, g, m, S, s, rg, p⟩ := t
  exact ⟨Xx, g, m, S, s, rg, by rw [← h g]; exact p⟩
theorem tX.no {Q : β → Hp → Prop} (t : tX K mg Wx R (fun _ => halt) σ H Q) : False := by
  obtain ⟨Xx, g, m, S, s, rg, p⟩ := t
  exact p
end
theorem pe_no {X : Cx} {e : Expr} {t : TE} (h : ∀ σ H Q, t σ H Q → False) : PE X e t := ⟨fun _ _ σ H Q _ q => (h σ H Q q).elim⟩
theorem pt_no {X : Cx} {e : Expr} {t : TT} (h : ∀ σ H Q, t σ H Q → False) : PT X e t := ⟨fun _ _ σ H Q _ q => (h σ H Q q).elim⟩
theorem pw_no {X : Cx} {e : Expr} {t : TT} (h : ∀ σ H Q, t σ H Q → False) : PW X e t := ⟨fun _ _ _ σ H Q _ q => (h σ H Q q).elim⟩

section
variable {X : Cx} {Wx : WX}
theorem not_star {e : Expr} (h : isStar e = false) (env : Env) (es : List Expr) : starEach (e :: es) env = (false, eval e env) :: starEach es env := by
  cases e <;> first | rfl | cases h
theorem no_star : ∀ {es : List Expr}, noStars es = true → ∀ (env : Env), (starEach es env).any (·.1) = false
  | [], _, env => rfl
  | e :: es, h, env => by
    unfold noStars at h
    rw [List.all_cons, Bool.and_eq_true] at h
    rw [not_star (by simpa using h.1) env es, List.any_cons, no_star (es := es) h.2 env]
    rfl
theorem starEach_len : ∀ (es : List Expr) (env : Env), (starEach es env).length = es.length
  | [], _ => rfl
  | e :: es, env => by cases e <;> (show (starEach es env).length + 1 = _; rw [starEach_len es env]; rfl)
theorem no_star_back {es : List Expr} (h : noStars es = true) (pos : Pos) (env : Env) : (backTo pos (starEach es env)).any (·.1) = false := by
  have q := no_star h env
  unfold backTo
  rw [List.any_map]
  exact q
theorem no_star_all {es : List Expr} (h : noStars es = true) (pos : Pos) (env : Env) : (backTo pos (starEach es env)).all (fun x => !x.1) = true := by
  have q := no_star_back h pos env
  rw [List.any_eq_false] at q
  rw [List.all_eq_true]
  intro x hx
  have := q x hx
  simpa using this
theorem noStars_cons {e : Expr} {es : List Expr} (h : noStars (e :: es) = true) : isStar e = false ∧ noStars es = true := by
  unfold noStars at h ⊢
  rw [List.all_cons, Bool.and_eq_true] at h
  exact ⟨by simpa using h.1, h.2⟩
/-- a list of arguments -/
theorem pa_evs {ev : Slots → Expr → M W} (hev : ∀ e, PE X e (tE X.K X.mg Wx fun g => ev g e)) : ∀ (es : List Expr), noStars es = true → PA X es (tL X.K X.mg Wx fun g => evs (ev g) es)
  | [], _ => pa_weak pa_nil fun σ H Q t => by
    obtain ⟨Xx, g, m, S, s, rg, p⟩ := t
    exact Post.ret p s .nil
  | e :: es, h => by
    obtain ⟨h1, h2⟩ := noStars_cons h
    refine pa_weak (pa_cons (hev e) (pa_evs hev es h2) (not_star h1 _ _)) fun σ H Q t => ?_
    obtain ⟨Xx, g, m, S, s, rg, p⟩ := t
    exact (step_in (R := fun Xx => Rw X.K Xx) (f := fun g => ev g e) s rg p).mono fun x H1 ⟨m1, S1, a, s1, rg1, pv1, r1, p1⟩ =>
      (step_in (R := fun Xx => Rws X.K Xx) (f := fun g => evs (ev g) es) s1 rg1 p1).mono fun xs H2 ⟨m2, S2, as, s2, rg2, pv2, r2, p2⟩ => Post.ret p2 s2 (.cons (Rw.mono pv2 _ _ r1) r2)
/-! ### operators -/
variable {fa fb fd : Slots → M W} {a b d : Expr} {pos : Pos}
abbrev PV (X : Cx) (Wx : WX) (e : Expr) (f : Slots → M W) : Prop := PE X e (tE X.K X.mg Wx f)
abbrev PB (X : Cx) (Wx : WX) (e : Expr) (f : Slots → M Bool) : Prop := PT X e (tT X.K X.mg Wx f)
abbrev PBw (X : Cx) (Wx : WX) (e : Expr) (f : Slots → M Bool) : Prop := PW X e (tT X.K X.mg Wx f)
/-- two values, then a rule -/
theorem two {R' : (Addr → Prop) → List Addr → Store → Hp → W → V → Prop} {k : W → W → M W} {r : R2} {σ : St} {H : Hp} {Q : VK}
    (h : ∀ (Xx : Addr → Prop) (m : List Addr) (S : Store) (H : Hp) (x y : W) (v u : V) (Q : VK), Sim X.K Xx m S H → Rw X.K Xx m S H x v → Rw X.K Xx m S H y u → Post X.K X.mg Xx (Rw X.K Xx) m S H (k x y S) Q (WE Wx σ) → r v u H Q)
    (t : tE X.K X.mg Wx (fun g => bnd (fa g) fun x => bnd (fb g) fun y => k x y) σ H Q) : tOp r (tE X.K X.mg Wx fa) (tE X.K X.mg Wx fb) σ H Q := by
  obtain ⟨Xx, g, m, S, s, rg, p⟩ := t
  exact (step_in (R := fun Xx => Rw X.K Xx) (f := fa) s rg p).mono fun x H1 ⟨m1, S1, a, s1, rg1, pv1, r1, p1⟩ =>
    (step_in (R := fun Xx => Rw X.K Xx) (f := fb) s1 rg1 p1).mono fun y H2 ⟨m2, S2, b, s2, rg2, pv2, r2, p2⟩ => h Xx m2 S2 H2 a b x y Q s2 (Rw.mono pv2 _ _ r1) r2 p2
theorem pv_bin (op : Operator) (live : Bool) (ha : PV X Wx a fa) (hb : PV X Wx b fb) : PV X Wx (.BinOp a op b pos) (fun g => bnd (fa g) fun x => bnd (fb g) fun y => binOp live op x y) :=
  pe_weak (pe_op (rB_ok op) ha hb) fun σ H Q t => two (R' := fun Xx => Rw X.K Xx) (fun Xx m S H x y v u Q s rx ry p => binOp_ok s rx ry p) t
theorem pv_ix (hu : X.A.units + 65 < cLine) (hs : isSlice b = false) (ha : PV X Wx a fa) (hb : PV X Wx b fb) : PV X Wx (.Subscript a b pos) (fun g => bnd (fa g) fun x => bnd (fb g) fun y => itemOf x y) :=
  pe_weak (pe_ix (rItem_ok hu) ha hb (by cases b <;> first | (intro o i; rfl) | cases hs)) fun σ H Q t => two (R' := fun Xx => Rw X.K Xx) (fun Xx m S H x y v u Q s rx ry p => itemOf_ok s rx ry p) t
theorem not_set {op : CmpOp} {b : Expr} (h : isSet b = false) : behindInMarks op b = false := by cases b <;> first | rfl | cases h
/-- a comparison's step -/
theorem cmp_step {Xx : Addr → Prop} {m : List Addr} {S : Store} {H : Hp} {op : CmpOp} {x y : W} {v u : V} {Q : VK} {E : XK} (s : Sim X.K Xx m S H) (rx : Rw X.K Xx m S H x v) (ry : Rw X.K Xx m S H y u)
    (p : Post X.K X.mg Xx (Rw X.K Xx) m S H (bnd (cmpOp op x y) (fun k => ret (.dat (.bool k))) S) Q E) : rC X.K op v u H fun z H' => ∃ k, z = .bl k ∧ Q (.bl k) H' := by
  refine cmpOp_ok s (Q := fun k H' => Q (.bl k) H') rx ry ((Post.bnd p).mono fun k H1 ⟨a, S1, m1, s1, pv1, r1, p1⟩ => ?_)
  have r1 : a = k := r1
  subst r1
  exact Post.ret p1 s1 (rw_bool _)
theorem pv_cmp (hu : X.A.units + 65 < cLine) (op : CmpOp) (hs : isSet b = false) (ha : PV X Wx a fa) (hb : PV X Wx b fb) :
    PV X Wx (.Compare a [op] [b] pos) (fun g => bnd (fa g) fun x => bnd (fb g) fun y => bnd (cmpOp op x y) fun k => ret (.dat (.bool k))) := by
  have base := pe_cmpR (pos := pos) (rC_ok (X := X) hu op) ha hb (not_set hs)
  refine ⟨fun pins s σ H Q I t => ?_⟩
  refine thn (base.run pins s σ H (fun z H' => ∃ k, z = .bl k ∧ Q (.bl k) H') I (two (R' := fun Xx => Rw X.K Xx) (r := fun v u H Q => rC X.K op v u H fun z H' => ∃ k, z = .bl k ∧ Q (.bl k) H') (fun Xx m S H x y v u Q s rx ry p => cmp_step s rx ry p) t)) fun v s1 ⟨x, H1, I1, r1, k, e, q⟩ => ?_
  subst e
  exact ⟨.bl k, H1, I1, r1, q⟩
/-- a test by a bool -/
theorem pb_of {e : Expr} {fe : Slots → M W} (h : PT X e (fun σ H Q => tE X.K X.mg Wx fe σ H fun x H' => ∃ k, x = .bl k ∧ Q k H')) : PB X Wx e (fun g => bnd (fe g) fun x => match asBool x with
    | some b => ret b
    | none => halt) := pt_weak h fun σ H Q t => by
  obtain ⟨Xx, g, m, S, s, rg, p⟩ := t
  refine (step_in (R := fun Xx => Rw X.K Xx) (f := fe) s rg p).mono fun x H1 ⟨m1, S1, a, s1, rg1, pv1, r1, p1⟩ => ?_
  cases e : asBool a with
  | some b =>
    rw [e] at p1
    exact ⟨b, asBool_ok e r1, Post.ret p1 s1 rfl⟩
  | none =>
    rw [e] at p1
    exact p1.elim
theorem isBl {Q : Bool → Hp → Prop} : (fun (z : V) (H' : Hp) => ∃ k, z = V.bl k ∧ ∃ k', V.bl k = V.bl k' ∧ Q k' H') = fun (z : V) (H' : Hp) => ∃ k, z = V.bl k ∧ Q k H' := by
  funext z H'
  refine propext ⟨fun ⟨k, e, k', e', q⟩ => ?_, fun ⟨k, e, q⟩ => ⟨k, e, k, rfl, q⟩⟩
  cases e'
  exact ⟨k, e, q⟩
abbrev fCmp (op : CmpOp) (fa fb : Slots → M W) : Slots → M W := fun g => bnd (fa g) fun x => bnd (fb g) fun y => bnd (cmpOp op x y) fun k => ret (.dat (.bool k))
theorem cmp_in {op : CmpOp} {σ : St} {H : Hp} {Q : VK} (t : tE X.K X.mg Wx (fCmp op fa fb) σ H Q) : tOp (rC X.K op) (tE X.K X.mg Wx fa) (tE X.K X.mg Wx fb) σ H fun z H' => ∃ k, z = .bl k ∧ Q (.bl k) H' :=
  two (R' := fun Xx => Rw X.K Xx) (r := fun v u H Q => rC X.K op v u H fun z H' => ∃ k, z = .bl k ∧ Q (.bl k) H') (k := fun x y => bnd (cmpOp op x y) fun k => ret (.dat (.bool k))) (fun Xx m S H x y v u Q s rx ry p => cmp_step s rx ry p) t
theorem pb_cmp (hu : X.A.units + 65 < cLine) (op : CmpOp) (hs : isSet b = false) (ha : PV X Wx a fa) (hb : PV X Wx b fb) :
    PT X (.Compare a [op] [b] pos) (fun σ H Q => tE X.K X.mg Wx (fCmp op fa fb) σ H fun x H' => ∃ k, x = .bl k ∧ Q k H') :=
  pt_weak (pt_cmpR (rC_ok hu op) ha hb (not_set hs)) fun σ H Q t => by
    have q := cmp_in t
    rw [isBl] at q
    exact q
abbrev fChain (op op' : CmpOp) (fa fb fd : Slots → M W) : Slots → M W := fun g => bnd (fa g) fun x => bnd (fb g) fun y => bnd (cmpOp op x y) fun k => match k with
    | true => bnd (fd g) fun z => bnd (cmpOp op' y z) fun k => ret (.dat (.bool k))
    | false => ret (.dat (.bool false))
theorem chain_in {op op' : CmpOp} {σ : St} {H : Hp} {Q : VK} (t : tE X.K X.mg Wx (fChain op op' fa fb fd) σ H Q) :
    tChain (rC X.K op) (rC X.K op') (tE X.K X.mg Wx fa) (tE X.K X.mg Wx fb) (tE X.K X.mg Wx fd) σ H fun z H' => ∃ k, z = .bl k ∧ Q (.bl k) H' := by
  obtain ⟨Xx, g, m, S, s, rg, p⟩ := t
  refine (step_in (R := fun Xx => Rw X.K Xx) (f := fa) s rg p).mono fun x H1 ⟨m1, S1, a, s1, rg1, pv1, r1, p1⟩ => ?_
  refine (step_in (R := fun Xx => Rw X.K Xx) (f := fb) s1 rg1 p1).mono fun y H2 ⟨m2, S2, b, s2, rg2, pv2, r2, p2⟩ => ?_
  refine cmpOp_ok s2 (Q := fun k H3 => if k = true then tE X.K X.mg Wx fd σ H3 (fun w' H4 => rC X.K op' y w' H4 fun z H' => ∃ k, z = .bl k ∧ Q (.bl k) H') else ∃ k, V.bl false = .bl k ∧ Q (.bl k) H3) (Rw.mono pv2 _ _ r1) r2 ((Post.bnd p2).mono fun k H3 ⟨k', S3, m3, s3, pv3, r3, p3⟩ => ?_)
  have r3 : k' = k := r3
  subst r3
  cases k' with
  | false => exact ⟨false, rfl, Post.ret p3 s3 (rw_bool _)⟩
  | true => exact (step_in (R := fun Xx => Rw X.K Xx) (f := fd) s3 (Rg.mono pv3 rg2) p3).mono fun z H4 ⟨m4, S4, c, s4, rg4, pv4, r4, p4⟩ => cmp_step s4 (Rw.mono pv4 _ _ (Rw.mono pv3 _ _ r2)) r4 p4
theorem not_sets {op op' : CmpOp} (h' : isSet d = false) : lastMarks [op, op'] [b, d] = false := by
  show behindInMarks op' d = false
  exact not_set h'
theorem pv_cmp' (hu : X.A.units + 65 < cLine) (op op' : CmpOp) (hs : isSet d = false) (ha : PV X Wx a fa) (hb : PV X Wx b fb) (hd : PV X Wx d fd) : PV X Wx (.Compare a [op, op'] [b, d] pos) (fChain op op' fa fb fd) := by
  have base := pe_chain (pos := pos) (rC_ok (X := X) hu op) (rC_ok (X := X) hu op') ha hb hd (not_sets hs)
  refine ⟨fun pins s σ H Q I t => ?_⟩
  refine thn (base.run pins s σ H (fun z H' => ∃ k, z = .bl k ∧ Q (.bl k) H') I (chain_in t)) fun v s1 ⟨x, H1, I1, r1, k, e, q⟩ => ?_
  subst e
  exact ⟨.bl k, H1, I1, r1, q⟩
theorem pb_cmp' (hu : X.A.units + 65 < cLine) (op op' : CmpOp) (hs : isSet d = false) (ha : PV X Wx a fa) (hb : PV X Wx b fb) (hd : PV X Wx d fd) :
    PT X (.Compare a [op, op'] [b, d] pos) (fun σ H Q => tE X.K X.mg Wx (fChain op op' fa fb fd) σ H fun x H' => ∃ k, x = .bl k ∧ Q k H') :=
  pt_weak (pt_chain (rC_ok hu op) (rC_ok hu op') ha hb hd (not_sets hs)) fun σ H Q t => by
    have q := chain_in t
    rw [isBl] at q
    exact q
/-! ### not, -, and, or, if -/
theorem pv_neg (ha : PV X Wx a fa) : PV X Wx (.UnaryOp .USub a pos) (fun g => bnd (fa g) fun x => match asInt x with
    | some i => ret (.dat (.int (-i)))
    | none => halt) := pe_weak (pe_un un_neg ha) fun σ H Q t => by
  obtain ⟨Xx, g, m, S, s, rg, p⟩ := t
  refine (step_in (R := fun Xx => Rw X.K Xx) (f := fa) s rg p).mono fun x H1 ⟨m1, S1, a, s1, rg1, pv1, r1, p1⟩ => ?_
  cases e : asInt a with
  | some i =>
    rw [e] at p1
    exact ⟨i, asInt_ok e r1, Post.ret p1 s1 (rw_int _)⟩
  | none =>
    rw [e] at p1
    exact p1.elim
theorem pv_not (ha : PV X Wx a fa) : PV X Wx (.UnaryOp .Not a pos) (fun g => bnd (fa g) fun x => bnd (truth x) fun k => ret (.dat (.bool (!k)))) := pe_weak (pe_notT ha) fun σ H Q t => by
  obtain ⟨Xx, g, m, S, s, rg, p⟩ := t
  refine (step_in (R := fun Xx => Rw X.K Xx) (f := fa) s rg p).mono fun x H1 ⟨m1, S1, a, s1, rg1, pv1, r1, p1⟩ => ?_
  refine truth_ok s1 (Q := fun k H' => Q (.bl (!k)) H') r1 ((Post.bnd p1).mono fun k H2 ⟨k', S2, m2, s2, pv2, r2, p2⟩ => ?_)
  have r2 : k' = k := r2
  subst r2
  exact Post.ret p2 s2 (rw_bool _)
/-- a value's truth as a test -/
theorem pb_truth (ha : PV X Wx a fa) (he : ∀ whole, isTrue a X.env whole = (do let v ← whole; standAt a.pos; holding [v] (truthy v))) : PB X Wx a (fun g => bnd (fa g) truth) := pt_weak (pt_truth ha he) fun σ H Q t => by
  obtain ⟨Xx, g, m, S, s, rg, p⟩ := t
  exact (step_in (R := fun Xx => Rw X.K Xx) (f := fa) s rg p).mono fun x H1 ⟨m1, S1, a, s1, rg1, pv1, r1, p1⟩ => truth_ok s1 (Q := Q) r1 p1
theorem pv_bool {ev : Slots → Expr → M W} (hev : ∀ e, PV X Wx e fun g => ev g e) (op : BoolOp) : ∀ (es : List Expr), PV X Wx (.BoolOp op es pos) fun g => boolV (ev g) op es
  | [] => pe_no fun σ H Q t => t.no
  | [e] => pe_one (hev e)
  | e :: e' :: r => by
    cases op with
    | And =>
      refine pe_weak (pe_andT (hev e) (pv_bool hev .And (e' :: r))) fun σ H Q t => ?_
      obtain ⟨Xx, g, m, S, s, rg, p⟩ := t
      refine (step_in (R := fun Xx => Rw X.K Xx) (f := fun g => ev g e) s rg p).mono fun x H1 ⟨m1, S1, a, s1, rg1, pv1, r1, p1⟩ => ?_
      obtain ⟨k, tv, q⟩ := truth_ok s1 (Q := fun k H' => ∃ S2 m2, Sim X.K Xx m2 S2 H' ∧ Rg X.K Xx m2 S2 H' g σ ∧ Rw X.K Xx m2 S2 H' a x ∧ Post X.K X.mg Xx (Rw X.K Xx) m2 S2 H' ((match BoolOp.And, k with
          | .And, true => boolV (ev g) .And (e' :: r)
          | .And, false => ret a
          | .Or, true => ret a
          | .Or, false => boolV (ev g) .And (e' :: r)) S2) Q (WE Wx σ)) r1 ((Post.bnd p1).mono fun k H2 ⟨k', S2, m2, s2, pv2, r2, p2⟩ => by
            have r2 : k' = k := r2
            subst r2
            exact ⟨S2, m2, s2, Rg.mono pv2 rg1, Rw.mono pv2 _ _ r1, p2⟩)
      refine ⟨k, tv, ?_⟩
      obtain ⟨S2, m2, s2, rg2, ra, p2⟩ := q
      cases k with
      | true => exact ⟨Xx, g, m2, S2, s2, rg2, p2⟩
      | false => exact Post.ret p2 s2 ra
    | Or =>
      refine pe_weak (pe_orT (hev e) (pv_bool hev .Or (e' :: r))) fun σ H Q t => ?_
      obtain ⟨Xx, g, m, S, s, rg, p⟩ := t
      refine (step_in (R := fun Xx => Rw X.K Xx) (f := fun g => ev g e) s rg p).mono fun x H1 ⟨m1, S1, a, s1, rg1, pv1, r1, p1⟩ => ?_
      obtain ⟨k, tv, q⟩ := truth_ok s1 (Q := fun k H' => ∃ S2 m2, Sim X.K Xx m2 S2 H' ∧ Rg X.K Xx m2 S2 H' g σ ∧ Rw X.K Xx m2 S2 H' a x ∧ Post X.K X.mg Xx (Rw X.K Xx) m2 S2 H' ((match BoolOp.Or, k with
          | .And, true => boolV (ev g) .Or (e' :: r)
          | .And, false => ret a
          | .Or, true => ret a
          | .Or, false => boolV (ev g) .Or (e' :: r)) S2) Q (WE Wx σ)) r1 ((Post.bnd p1).mono fun k H2 ⟨k', S2, m2, s2, pv2, r2, p2⟩ => by
            have r2 : k' = k := r2
            subst r2
            exact ⟨S2, m2, s2, Rg.mono pv2 rg1, Rw.mono pv2 _ _ r1, p2⟩)
      refine ⟨k, tv, ?_⟩
      obtain ⟨S2, m2, s2, rg2, ra, p2⟩ := q
      cases k with
      | true => exact Post.ret p2 s2 ra
      | false => exact ⟨Xx, g, m2, S2, s2, rg2, p2⟩
theorem pb_and {ts : Slots → Expr → M Bool} (hts : ∀ e, PB X Wx e fun g => ts g e) : ∀ (es : List Expr), PBw X Wx (.BoolOp .And es pos) fun g => andT (ts g) es
  | [] => pw_no fun σ H Q t => t.no
  | [e] => pw_and1 (hts e)
  | e :: e' :: r => by
    refine pw_weak (pw_and (hts e) (pb_and hts (e' :: r))) fun σ H Q t => ?_
    obtain ⟨Xx, g, m, S, s, rg, p⟩ := t
    refine (step_in (R := fun _ => RB) (f := fun g => ts g e) s rg p).mono fun k H1 ⟨m1, S1, k', s1, rg1, pv1, r1, p1⟩ => ?_
    have r1 : k' = k := r1
    subst r1
    cases k' with
    | true => exact ⟨Xx, g, m1, S1, s1, rg1, p1⟩
    | false => exact Post.ret p1 s1 rfl
theorem pb_or {ts : Slots → Expr → M Bool} (hts : ∀ e, PB X Wx e fun g => ts g e) : ∀ (es : List Expr), PBw X Wx (.BoolOp .Or es pos) fun g => orT (ts g) es
  | [] => pw_no fun σ H Q t => t.no
  | [e] => pw_or1 (hts e)
  | e :: e' :: r => by
    refine pw_weak (pw_or (hts e) (pb_or hts (e' :: r))) fun σ H Q t => ?_
    obtain ⟨Xx, g, m, S, s, rg, p⟩ := t
    refine (step_in (R := fun _ => RB) (f := fun g => ts g e) s rg p).mono fun k H1 ⟨m1, S1, k', s1, rg1, pv1, r1, p1⟩ => ?_
    have r1 : k' = k := r1
    subst r1
    cases k' with
    | false => exact ⟨Xx, g, m1, S1, s1, rg1, p1⟩
    | true => exact Post.ret p1 s1 rfl
theorem pb_not {ts : Slots → M Bool} (h : PB X Wx a ts) : PB X Wx (.UnaryOp .Not a pos) fun g => bnd (ts g) fun k => ret (!k) := pt_weak (pt_not h) fun σ H Q t => by
  obtain ⟨Xx, g, m, S, s, rg, p⟩ := t
  refine (step_in (R := fun _ => RB) (f := ts) s rg p).mono fun k H1 ⟨m1, S1, k', s1, rg1, pv1, r1, p1⟩ => ?_
  have r1 : k' = k := r1
  subst r1
  exact Post.ret p1 s1 rfl
theorem pv_if {ft : Slots → M Bool} (ht : PB X Wx d ft) (ha : PV X Wx a fa) (hb : PV X Wx b fb) : PV X Wx (.IfExp d a b pos) fun g => bnd (ft g) fun k => match k with
    | true => fa g
    | false => fb g := pe_weak (pe_ifExp ht ha hb) fun σ H Q t => by
  obtain ⟨Xx, g, m, S, s, rg, p⟩ := t
  refine (step_in (R := fun _ => RB) (f := ft) s rg p).mono fun k H1 ⟨m1, S1, k', s1, rg1, pv1, r1, p1⟩ => ?_
  have r1 : k' = k := r1
  subst r1
  cases k' with
  | true => exact ⟨Xx, g, m1, S1, s1, rg1, p1⟩
  | false => exact ⟨Xx, g, m1, S1, s1, rg1, p1⟩
end
end Mp
end

section
set_option Elab.async false
set_option linter.all false
set_option maxRecDepth 100000
set_option maxHeartbeats 400000
set_option autoImplicit false
/-! Mp13: soundness, the context, names, displays, calls. -/
namespace Mp
open PySem PySem.Spec L2
/-- a def's promise, under a stack that bears no guard -/
structure FnG (P : Program) (w : World) (K : PySem.W.Frag) (mg : Str → Option Value) (base : Heap) (k : Nat) (f : Addr) (fd : FuncData) (ps : List Str) (sp : Sp) : Prop where
  len : ∀ (vs : List V) (H : Hp) (Q : VK) (E : XK), sp vs H Q E → vs.length = ps.length
  go : ∀ (A : Around) (outer : List Env) (s : Shared) (H : Hp) (args : Args) (us : List Value) (vs : List V) (Q : VK) (E : XK), Room k A → A.guards = some [] → Env0 P w K mg base A outer s H → BindsTo s fd args (ps.zip us) → Vals vs us → sp vs H Q E →
    codeAny (model P w) A (.call (.ref f) args) (CR (L2.CX P w) outer P w H s Q E) s
def spF (K : PySem.W.Frag) (mg : Str → Option Value) (f : List W → M W) : Sp := fun vs H Q E => ∃ Xx m S ws, Sim K Xx m S H ∧ Rws K Xx m S H ws vs ∧ Post K mg Xx (Rw K Xx) m S H (f ws S) Q E
structure ExK (K : PySem.W.Frag) (mg : Str → Option Value) (x : Str) (C : Addr) (B newId initId : String) (bm : List Value) : Prop where
  g : mg x = some (.ref C)
  F : ExcBaseFacts B newId initId bm
  q : PySem.W.excIn K C bm newId = true
  kp : PySem.W.keepIn K (.ref C) = true
  sb : PySem.W.subIn K (.ref C) (.type "BaseException") = some true
  ty : PySem.W.typeIn K (.ref C) = some (.type "type")
/-- what the module gives, calls k deep -/
structure GOk (P : Program) (w : World) (K : PySem.W.Frag) (mg : Str → Option Value) (base : Heap) (k : Nat) (G : Glob) (call : Str → List W → M W) : Prop where
  cst : ∀ (x : Str) (d : PyData), G.val x = some (.cst d) → ∃ v u, mg x = some u ∧ RelV v u ∧ Rk K d v
  blt : ∀ (x : Str), G.val x = some .blt → mg x = none
  fn : ∀ (x : Str), G.val x = some .fn → ∃ f fd ps, mg x = some (.ref f) ∧ PySem.W.keepIn K (.ref f) = true ∧ Binds K fd ps [] ∧ FnG P w K mg base k f fd ps (spF K mg (call x))
  kw : ∀ (x y : Str), G.kw x y = true → ∃ f fd, mg x = some (.ref f) ∧ PySem.W.keepIn K (.ref f) = true ∧ KBinds K fd [y] [y] (fun us ws => us ++ ws) (fun vs zs => vs ++ zs) ∧ FnG P w K mg base k f fd [y] (spF K mg (call x))
  exc : ∀ (x : Str), G.val x = some .exc → ∃ C B newId initId bm, ExK K mg x C B newId initId bm
  sub : ∀ (x y : Str) (b : Bool), G.sub x y = some b → ∃ C D : Addr, mg x = some (.ref C) ∧ mg y = some (.ref D) ∧ PySem.W.exmOne K (.ref C) (.ref D) = some b
/-- a context and its configuration -/
structure Cok (X : Cx) (c : Cfg) (Wx : WX) (k : Nat) (call : Str → List W → M W) : Prop where
  N : X.N = c.N
  sc : ∀ (x : Str) (kd : NameKind), c.sc.names.lookup x = some kd → X.env.scope.names.lookup x = some kd ∨ (kd = .free ∧ X.env.scope.names.lookup x = some .cell)
  nd : X.N.Nodup
  calm : X.calm = true
  room : Room k X.A
  grd : X.A.guards = some []
  pass : ∀ σ, PassesAt (L2.CX X.prog X.w) X σ (WE Wx σ)
  cel : ∀ x, c.sc.names.lookup x = some .cell → X.fn x = true
  g : GOk X.prog X.w X.K X.mg X.base k c.G call
section
variable {X : Cx} {Wx : WX} {c : Cfg} {k : Nat} {call : Str → List W → M W}
theorem Cok.units (C : Cok X c Wx k call) : X.A.units + 70 < cLine := by have := C.room.un; omega
theorem Cok.gl (C : Cok X c Wx k call) {x : Str} (h : globName c x = true) : Gl X x := by
  show X.env.scope.names.lookup x = _
  unfold globName at h
  split at h
  · rename_i e
    rcases C.sc x _ e with q | ⟨q, _⟩
    · exact q
    · cases q
  · cases h
theorem okName_ok {x : Str} (h : okName x = true) : (x == ("__debug__" : Str)) = false ∧ (x == ("__classdict__" : Str)) = false ∧ x ≠ "__name__" := by
  unfold okName at h
  simp only [Bool.and_eq_true, Bool.not_eq_true'] at h
  refine ⟨h.1.1, h.1.2, fun e => ?_⟩
  have := h.2
  rw [e] at this
  revert this
  decide
theorem idx_ok {N : List Str} {x : Str} {i : Nat} (h : idx N x = some i) : N[i]? = some x := by
  unfold idx at h
  rw [List.findIdx?_eq_some_iff_getElem] at h
  obtain ⟨hj, h1, _⟩ := h
  rw [List.getElem?_eq_getElem hj]
  exact congrArg some (of_decide_eq_true h1)
theorem pv_name (C : Cok X c Wx k call) (x : Str) (pos : Pos) : PV X Wx (.Name x pos) (fun g => loadName c g x) := by
  unfold loadName
  cases ho : okName x with
  | false => exact pe_no fun σ H Q t => t.no
  | true =>
    obtain ⟨h1, h2, h3⟩ := okName_ok ho
    cases hw : ownName c x with
    | true =>
      cases hi : idx c.N x with
      | none => exact pe_no fun σ H Q t => t.no
      | some i =>
        have hv : Vis X.env.scope x := by
          unfold ownName at hw
          split at hw
          · rename_i e
            rcases C.sc x _ e with q | ⟨q, _⟩
            · exact .inl q
            · cases q
          · rename_i e
            rcases C.sc x _ e with q | ⟨q, _⟩
            · exact .inr (.inl q)
            · cases q
          · rename_i e
            rcases C.sc x _ e with q | ⟨_, q⟩
            · exact .inr (.inr q)
            · exact .inr (.inl q)
          · cases hw
        refine pe_weak (pe_var (i := i) (by rw [C.N]; exact idx_ok hi) hv h1 h2) fun σ H Q t => ?_
        obtain ⟨Xx, g, m, S, s, rg, p⟩ := t
        change Post X.K X.mg Xx (Rw X.K Xx) m S H ((match g[i]? with
          | some (some w) => ret w
          | _ => halt : M W) S) Q (WE Wx σ) at p
        cases e : g[i]? with
        | none => rw [e] at p; exact p.elim
        | some ow =>
          cases ow with
          | none => rw [e] at p; exact p.elim
          | some w =>
            rw [e] at p
            obtain ⟨v, e1, r1⟩ := rg.at_ i w e
            exact ⟨v, e1, Post.ret p s r1⟩
    | false =>
      cases hg : globName c x with
      | false => exact pe_no fun σ H Q t => t.no
      | true =>
        cases hv : c.G.val x with
        | none => exact pe_no fun σ H Q t => t.no
        | some gv =>
          cases gv with
          | cst d =>
            obtain ⟨v, u, e1, e2, e3⟩ := C.g.cst x d hv
            refine pe_weak (pe_glob (C.gl hg) e1 e2 h1) fun σ H Q t => ?_
            obtain ⟨Xx, g, m, S, s, rg, p⟩ := t
            exact Post.ret p s (rk_mkC e3)
          | fn => exact pe_no fun σ H Q t => t.no
          | blt => exact pe_no fun σ H Q t => t.no
          | exc => exact pe_no fun σ H Q t => t.no
theorem pv_const (v : Const) (j : Nat) (pos : Pos) : PV X Wx (.Constant v j pos) (fun _ => match v with
    | .none => ret (.dat .none)
    | .bool b => ret (.dat (.bool b))
    | .int i => ret (.dat (.int i))
    | .str x => ret (.dat (.str x))
    | _ => halt) := by
  cases v with
  | none => exact pe_weak pe_non fun σ H Q ⟨Xx, g, m, S, s, rg, p⟩ => Post.ret p s rw_none
  | bool b => exact pe_weak pe_bl fun σ H Q ⟨Xx, g, m, S, s, rg, p⟩ => Post.ret p s (rw_bool _)
  | int b => exact pe_weak pe_int fun σ H Q ⟨Xx, g, m, S, s, rg, p⟩ => Post.ret p s (rw_int _)
  | str b => exact pe_weak pe_str fun σ H Q ⟨Xx, g, m, S, s, rg, p⟩ => Post.ret p s (rw_str _)
  | _ => exact pe_no fun σ H Q t => t.no
/-! ### displays -/
variable {ev : Slots → Expr → M W} {pos : Pos}
theorem rws_lenv {Xx : Addr → Prop} {m : List Addr} {S : Store} {H : Hp} {ws : List W} {vs : List V} (r : Rws X.K Xx m S H ws vs) : vs.length = ws.length := (rws_len r).symm
theorem rps_len {L : Addr → Prop} {H : Hp} : ∀ {ds : List PyData} {vs : List V}, Rps L H ds vs → vs.length = ds.length
  | [], vs, r => by unfold Rps at r; subst r; rfl
  | d :: ds, vs, r => by
    unfold Rps at r
    obtain ⟨v, t, e, _, r2⟩ := r
    subst e
    rw [List.length_cons, List.length_cons, rps_len r2]
theorem pv_list (hev : ∀ e, PV X Wx e fun g => ev g e) (es : List Expr) (hs : noStars es = true) (live : Bool) :
    PV X Wx (.List es pos) fun g => bnd (evs (ev g) es) fun ws => if roomy ws.length = true then newList live ws else halt := pe_weak (pe_lst (pa_evs hev es hs)) fun σ H Q t => by
  obtain ⟨Xx, g, m, S, s, rg, p⟩ := t
  refine (step_in (R := fun Xx => Rws X.K Xx) (f := fun g => evs (ev g) es) s rg p).mono fun vs H1 ⟨m1, S1, ws, s1, rg1, pv1, r1, p1⟩ => ?_
  by_cases hz : roomy ws.length = true
  · rw [if_pos hz] at p1
    refine ⟨?_, newList_ok s1 r1 p1⟩
    have := roomy_le hz
    rw [rws_lenv r1]
    omega
  · rw [if_neg hz] at p1
    exact p1.elim
theorem give_noexc {w : W} {S S' : Store} {x : Xc} (e : give w S = .exc x S') : False := by
  cases w with
  | dat y => cases e
  | con y => cases e
  | obj n =>
    change (match S[n]? with
      | some (some (.lst ws)) => match allDat ws with
        | some ds => Res.ok (PyData.list ds) (S.set n none)
        | none => .stuck
      | _ => .stuck) = _ at e
    split at e
    · split at e <;> cases e
    · cases e
theorem gives_noexc : ∀ {ws : List W} {S S' : Store} {x : Xc}, gives ws S = .exc x S' → False
  | [], S, S', x, e => by cases e
  | w :: ws, S, S', x, e => by
    unfold gives Mp.bnd at e
    cases q : give w S with
    | stuck => rw [q] at e; cases e
    | exc x S2 => exact give_noexc q
    | ok y S2 =>
      rw [q] at e
      dsimp only [Mp.bnd] at e
      cases q2 : gives ws S2 with
      | stuck => rw [q2] at e; cases e
      | exc x S3 => exact gives_noexc q2
      | ok ys S3 => rw [q2] at e; cases e
theorem pv_tuple (hev : ∀ e, PV X Wx e fun g => ev g e) (es : List Expr) (j : Nat) (hs : noStars es = true) :
    PV X Wx (.Tuple es j pos) fun g => bnd (evs (ev g) es) fun ws => bnd (gives ws) fun xs => if roomy xs.length = true then ret (.dat (.tuple xs)) else halt := pe_weak (pe_tup (pa_evs hev es hs)) fun σ H Q t => by
  obtain ⟨Xx, g, m, S, s, rg, p⟩ := t
  refine (step_in (R := fun Xx => Rws X.K Xx) (f := fun g => evs (ev g) es) s rg p).mono fun vs H1 ⟨m1, S1, ws, s1, rg1, pv1, r1, p1⟩ => ?_
  unfold Mp.bnd at p1
  cases e : gives ws S1 with
  | stuck => rw [e] at p1; exact p1.elim
  | exc x S2 => exact (gives_noexc e).elim
  | ok xs S2 =>
    rw [e] at p1
    obtain ⟨s2, pv2, r2⟩ := gives_ok s1 r1 e
    dsimp only at p1
    by_cases hz : roomy xs.length = true
    · rw [if_pos hz] at p1
      refine ⟨?_, newTup_ok s2 r2 (p1.from pv2)⟩
      have := roomy_le hz
      rw [rps_len r2]
      omega
    · rw [if_neg hz] at p1
      exact p1.elim
theorem pv_dict0 : PV X Wx (.Dict [] [] pos) fun _ => alloc (.dk []) := pe_weak pe_dnewK fun σ H Q t => by
  obtain ⟨Xx, g, m, S, s, rg, p⟩ := t
  intro q hq
  change Post X.K X.mg Xx (Rw X.K Xx) m S H (if (Ob.dk []).below S.length = true then Res.ok (W.obj S.length) (S ++ [some (.dk [])]) else .stuck) Q (WE Wx σ) at p
  have hb : (Ob.dk []).below S.length = true := rfl
  rw [if_pos hb] at p
  refine Post.ok p (s.alloc hq hb (.dk .nil)) (Pv.alloc s hq) ?_
  refine ⟨q, ?_, rfl⟩
  rw [← s.len, List.getElem?_append_right (Nat.le_refl _), Nat.sub_self]
  rfl
/-! ### parts -/
theorem po_opt (hev : ∀ e, PV X Wx e fun g => ev g e) : ∀ (o : Option Expr), PO X o (tX X.K X.mg Wx (fun _ _ _ _ (a b : Option Int) => a = b) fun g => optI (ev g) o)
  | none => po_weak po_none fun σ H Q ⟨Xx, g, m, S, s, rg, p⟩ => Post.ret p s rfl
  | some e => po_weak (po_some (hev e)) fun σ H Q t => by
    obtain ⟨Xx, g, m, S, s, rg, p⟩ := t
    refine (step_in (R := fun Xx => Rw X.K Xx) (f := fun g => ev g e) s rg p).mono fun x H1 ⟨m1, S1, a, s1, rg1, pv1, r1, p1⟩ => ?_
    cases e : asInt a with
    | some i =>
      rw [e] at p1
      exact ⟨i, asInt_ok e r1, Post.ret p1 s1 rfl⟩
    | none =>
      rw [e] at p1
      exact p1.elim
theorem pv_slice (hev : ∀ e, PV X Wx e fun g => ev g e) (a : Expr) (lo hi : Option Expr) (p2 : Pos) (live : Bool) :
    PV X Wx (.Subscript a (.Slice lo hi none p2) pos) fun g => bnd (ev g a) fun x => bnd (optI (ev g) lo) fun l => bnd (optI (ev g) hi) fun h => sliceOf live x l h :=
  pe_weak (pe_slice (r := rSlice X.K) (sl_list.or sl_tup) (hev a) (po_opt hev lo) (po_opt hev hi)) fun σ H Q t => by
    obtain ⟨Xx, g, m, S, s, rg, p⟩ := t
    refine (step_in (R := fun Xx => Rw X.K Xx) (f := fun g => ev g a) s rg p).mono fun x H1 ⟨m1, S1, a, s1, rg1, pv1, r1, p1⟩ => ?_
    refine (step_in (R := fun _ _ _ _ (a b : Option Int) => a = b) (f := fun g => optI (ev g) lo) s1 rg1 p1).mono fun l H2 ⟨m2, S2, l', s2, rg2, pv2, r2, p2⟩ => ?_
    refine (step_in (R := fun _ _ _ _ (a b : Option Int) => a = b) (f := fun g => optI (ev g) hi) s2 rg2 p2).mono fun h H3 ⟨m3, S3, h', s3, rg3, pv3, r3, p3⟩ => ?_
    have r2 : l' = l := r2
    have r3 : h' = h := r3
    subst r2 r3
    exact sliceOf_ok s3 (Rw.mono pv3 _ _ (Rw.mono pv2 _ _ r1)) p3
theorem pv_rev {fa : Slots → M W} {a : Expr} (ha : PV X Wx a fa) (j : Nat) (p1 p2 p3 : Pos) (live : Bool) :
    PV X Wx (.Subscript a (.Slice none none (some (.UnaryOp .USub (.Constant (.int 1) j p1) p2)) p3) pos) fun g => bnd (fa g) fun x => turned live x := pe_weak (pe_revL ha) fun σ H Q t => by
  obtain ⟨Xx, g, m, S, s, rg, p⟩ := t
  exact (step_in (R := fun Xx => Rw X.K Xx) (f := fa) s rg p).mono fun x H1 ⟨m1, S1, a, s1, rg1, pv1, r1, p1⟩ => turned_ok s1 r1 p1
end
end Mp
end

section
set_option Elab.async false
set_option linter.all false
set_option maxRecDepth 100000
set_option maxHeartbeats 400000
set_option autoImplicit false
/-! Mp14: soundness, calls. -/
namespace Mp
open PySem PySem.Spec L2
section
variable {X : Cx} {Wx : WX} {c : Cfg} {k : Nat} {call : Str → List W → M W} {ev : Slots → Expr → M W} {pos : Pos}
/-- the called def runs -/
theorem fn_runs {pins : List (Addr × Obj)} {σ : St} {H : Hp} {s : Shared} {Q : VK} {us : List Value} {vs : List V} {f : Addr} {fd : FuncData} {ps : List Str} {sp : Sp} (C : Cok X c Wx k call)
    (F : FnG X.prog X.w X.K X.mg X.base k f fd ps sp) (hb : Binds X.K fd ps []) (I : Inv X pins σ H s) (r : Vals vs us) (h : sp vs H Q (WE Wx σ)) : wpAny (model X.prog X.w) X.A (PySem.call (.ref f) us) (EP X pins σ Q) X.xe s := by
  have e1 : us.length = ps.length := by rw [← r.length, F.len vs H Q _ h]
  have e2 := hb s us I.kIn (by simpa using e1)
  simp only [List.append_nil] at e2
  have done := F.go X.A X.stack s H ⟨us, []⟩ us vs Q (WE Wx σ) C.room C.grd I.env0 e2 r h
  refine wpAny_call (codeAny_mono done fun res s' q => ?_)
  rcases res with err | fl
  · exact C.pass σ pins H s err s' I q
  · rcases fl with _ | u | _ | _
    all_goals first | exact I.after q | exact (show False from q).elim
theorem fn_runsK {pins : List (Addr × Obj)} {σ : St} {H : Hp} {s : Shared} {Q : VK} {ws : List Value} {zs : List V} {f : Addr} {fd : FuncData} {y : Str} {sp : Sp} (C : Cok X c Wx k call)
    (F : FnG X.prog X.w X.K X.mg X.base k f fd [y] sp) (hb : KBinds X.K fd [y] [y] (fun us ws => us ++ ws) (fun vs zs => vs ++ zs)) (I : Inv X pins σ H s) (r : Vals zs ws) (h : sp zs H Q (WE Wx σ)) :
    wpAny (model X.prog X.w) X.A (PySem.call (.ref f) [] ([y].zip ws)) (EP X pins σ Q) X.xe s := by
  have e1 : ws.length = ([y] : List Str).length := by rw [← r.length, F.len zs H Q _ h]
  have done := F.go X.A X.stack s H ⟨[], [y].zip ws⟩ ws zs Q (WE Wx σ) C.room C.grd I.env0 (hb.to s [] ws I.kIn e1) r h
  refine wpAny_call (codeAny_mono done fun res s' q => ?_)
  rcases res with err | fl
  · exact C.pass σ pins H s err s' I q
  · rcases fl with _ | u | _ | _
    all_goals first | exact I.after q | exact (show False from q).elim
theorem isDef_ok {f : Str} (h : isDef c f = true) : okName f = true ∧ globName c f = true ∧ c.G.val f = some .fn := by
  unfold isDef at h
  simp only [Bool.and_eq_true] at h
  refine ⟨h.1.1, h.1.2, ?_⟩
  have h2 := h.2
  split at h2
  · assumption
  · cases h2
theorem isBlt_ok {f : Str} (h : isBlt c f = true) : okName f = true ∧ globName c f = true ∧ c.G.val f = some .blt := by
  unfold isBlt at h
  simp only [Bool.and_eq_true] at h
  refine ⟨h.1.1, h.1.2, ?_⟩
  have h2 := h.2
  split at h2
  · assumption
  · cases h2
theorem pv_call (C : Cok X c Wx k call) (hev : ∀ e, PV X Wx e fun g => ev g e) (f : Str) (p : Pos) (a : Expr) (as : List Expr) (hd : isDef c f = true) (hs : noStars (a :: as) = true) :
    PV X Wx (.Call (.Name f p) (a :: as) [] pos) fun g => bnd (evs (ev g) (a :: as)) fun ws => call f ws := by
  obtain ⟨h1, h2, h3⟩ := isDef_ok hd
  obtain ⟨fa, fd, ps, gf, kf, bf, F⟩ := C.g.fn f h3
  obtain ⟨d1, d2, d3⟩ := okName_ok h1
  refine ⟨fun pins s σ H Q I t => ?_⟩
  obtain ⟨Xx, g, m, S, sm, rg, p0⟩ := t
  have t2 : tL X.K X.mg Wx (fun g => evs (ev g) (a :: as)) σ H fun vs H1 => spF X.K X.mg (call f) vs H1 Q (WE Wx σ) :=
    (step_in (R := fun Xx => Rws X.K Xx) (f := fun g => evs (ev g) (a :: as)) sm rg p0).mono fun vs H1 ⟨m1, S1, ws, s1, rg1, pv1, r1, p1⟩ => ⟨Xx, m1, S1, ws, s1, r1, p1⟩
  refine wpAny_Call_Name_kw (ld_glob I (C.gl h2) gf ?_ d1)
  refine PySem.W.callWith_K (h₀ := X.base) I.ok.mod.kin kf (thn ((pa_evs hev (a :: as) hs).run pos pins s σ H _ I t2) fun us s1 ⟨vs, H1, I1, r, q⟩ => ⟨I1.kIn, ?_⟩) (not_star (noStars_cons hs).1 _ _) (no_star_back (noStars_cons hs).2 pos _)
  exact fn_runs C F bf I1 r q
theorem pv_callK (C : Cok X c Wx k call) {fe : Slots → M W} {e : Expr} (he : PV X Wx e fe) (f y : Str) (p kp : Pos) (hd : isDef c f = true) (hk : c.G.kw f y = true) :
    PV X Wx (.Call (.Name f p) [] [⟨some y, e, kp⟩] pos) fun g => bnd (fe g) fun w => call f [w] := by
  obtain ⟨h1, h2, h3⟩ := isDef_ok hd
  obtain ⟨fa, fd, gf, kf, bf, F⟩ := C.g.kw f y hk
  obtain ⟨d1, d2, d3⟩ := okName_ok h1
  refine ⟨fun pins s σ H Q I t => ?_⟩
  obtain ⟨Xx, g, m, S, sm, rg, p0⟩ := t
  have t2 : tCons (tE X.K X.mg Wx fe) tNil σ H fun vs H1 => spF X.K X.mg (call f) vs H1 Q (WE Wx σ) :=
    (step_in (R := fun Xx => Rw X.K Xx) (f := fe) sm rg p0).mono fun v H1 ⟨m1, S1, w, s1, rg1, pv1, r1, p1⟩ => ⟨Xx, m1, S1, [w], s1, .cons r1 .nil, p1⟩
  refine wpAny_Call_Name_kw (ld_glob I (C.gl h2) gf ?_ d1)
  refine PySem.W.callWith_KW0 (h₀ := X.base) I.ok.mod.kin kf rfl (thn ((pk_cons he pk_nil).run pos pins s σ H _ I t2) fun us s1 ⟨vs, H1, I1, r, q⟩ => ⟨I1.kIn, ?_⟩) rfl
  exact fn_runsK C F bf I1 r q
/-! ### builtins -/
theorem fst_star {a : Expr} {as : List Expr} (hs : noStars (a :: as) = true) : noStars as = true := (noStars_cons hs).2
theorem pv_bltB (C : Cok X c Wx k call) (hev : ∀ e, PV X Wx e fun g => ev g e) {f : Str} {id : String} (p : Pos) (a : Expr) (as : List Expr) {r : RC} (hd : isBlt c f = true) (hs : noStars (a :: as) = true) (hv : bootBuiltins f = some (.builtin id)) (hr : CallR X (.builtin id) r)
    {k2 : List W → M W} (hk : ∀ (Xx : Addr → Prop) (m : List Addr) (S : Store) (H : Hp) (ws : List W) (vs : List V) (Q : VK) (E : XK), Sim X.K Xx m S H → Rws X.K Xx m S H ws vs → Post X.K X.mg Xx (Rw X.K Xx) m S H (k2 ws S) Q E → r vs H Q) :
    PV X Wx (.Call (.Name f p) (a :: as) [] pos) fun g => bnd (evs (ev g) (a :: as)) k2 := by
  obtain ⟨h1, h2, h3⟩ := isBlt_ok hd
  obtain ⟨d1, d2, d3⟩ := okName_ok h1
  refine pe_weak (pe_callB hr (C.gl h2) (C.g.blt f h3) hv (pa_evs hev (a :: as) hs) d3 d1 (not_star (noStars_cons hs).1 _ _) (no_star_back (fst_star hs) pos _)) fun σ H Q t => ?_
  obtain ⟨Xx, g, m, S, sm, rg, p0⟩ := t
  exact (step_in (R := fun Xx => Rws X.K Xx) (f := fun g => evs (ev g) (a :: as)) sm rg p0).mono fun vs H1 ⟨m1, S1, ws, s1, rg1, pv1, r1, p1⟩ => hk Xx m1 S1 H1 ws vs Q _ s1 r1 p1
theorem pv_bltT (C : Cok X c Wx k call) (hev : ∀ e, PV X Wx e fun g => ev g e) {f : Str} {id : String} (p : Pos) (a : Expr) (as : List Expr) {r : RC} (hd : isBlt c f = true) (hs : noStars (a :: as) = true) (hv : bootBuiltins f = some (.type id)) (hr : CallR X (.type id) r)
    {k2 : List W → M W} (hk : ∀ (Xx : Addr → Prop) (m : List Addr) (S : Store) (H : Hp) (ws : List W) (vs : List V) (Q : VK) (E : XK), Sim X.K Xx m S H → Rws X.K Xx m S H ws vs → Post X.K X.mg Xx (Rw X.K Xx) m S H (k2 ws S) Q E → r vs H Q) :
    PV X Wx (.Call (.Name f p) (a :: as) [] pos) fun g => bnd (evs (ev g) (a :: as)) k2 := by
  obtain ⟨h1, h2, h3⟩ := isBlt_ok hd
  obtain ⟨d1, d2, d3⟩ := okName_ok h1
  refine pe_weak (pe_callTy hr (C.gl h2) (C.g.blt f h3) hv (pa_evs hev (a :: as) hs) d3 d1 (not_star (noStars_cons hs).1 _ _) (no_star_back (fst_star hs) pos _)) fun σ H Q t => ?_
  obtain ⟨Xx, g, m, S, sm, rg, p0⟩ := t
  exact (step_in (R := fun Xx => Rws X.K Xx) (f := fun g => evs (ev g) (a :: as)) sm rg p0).mono fun vs H1 ⟨m1, S1, ws, s1, rg1, pv1, r1, p1⟩ => hk Xx m1 S1 H1 ws vs Q _ s1 r1 p1
theorem pv_blt (C : Cok X c Wx k call) (hev : ∀ e, PV X Wx e fun g => ev g e) (f : Str) (p : Pos) (a : Expr) (as : List Expr) (live : Bool) (hk : knownB f = true) (hd : isBlt c f = true) (hs : noStars (a :: as) = true) :
    PV X Wx (.Call (.Name f p) (a :: as) [] pos) fun g => bnd (evs (ev g) (a :: as)) fun ws => blt live f ws := by
  unfold knownB at hk
  simp only [Bool.or_eq_true, decide_eq_true_eq] at hk
  rcases hk with ((((((e | e) | e) | e) | e) | e) | e) | e
  · subst e; exact pv_bltB C hev p a as hd hs PySem.boot_len cr_len fun Xx m S H ws vs Q E s r p => blt_len_ok s r p
  · subst e; exact pv_bltT C hev p a as hd hs PyProof.Rows.boot_int cr_int fun Xx m S H ws vs Q E s r p => blt_int_ok s r p
  · subst e; exact pv_bltB C hev p a as hd hs PyProof.Rows.boot_abs cr_abs fun Xx m S H ws vs Q E s r p => blt_abs_ok s r p
  · subst e; exact pv_bltT C hev p a as hd hs PyProof.Rows.boot_list cr_list fun Xx m S H ws vs Q E s r p => blt_list_ok s r p
  · subst e; exact pv_bltT C hev p a as hd hs PyProof.Rows.boot_tuple cr_tuple fun Xx m S H ws vs Q E s r p => blt_tuple_ok s r p
  · subst e; exact pv_bltB C hev p a as hd hs PyProof.Rows.boot_all (cr_all C.calm) fun Xx m S H ws vs Q E s r p => blt_all_ok s r p
  · subst e; exact pv_bltB C hev p a as hd hs PyProof.Rows.boot_any (cr_any C.calm) fun Xx m S H ws vs Q E s r p => blt_any_ok s r p
  · subst e; exact pv_bltB C hev p a as hd hs PyProof.Rows.boot_repr (call_reprD C.grd C.units) fun Xx m S H ws vs Q E s r p => blt_repr_ok s r p
/-- a built-in class by its name -/
theorem pe_class (C : Cok X c Wx k call) (t : Str) (p : Pos) (hd : isBlt c t = true) {T : String} (hv : bootBuiltins t = some (.type T)) : PE X (.Name t p) (tC (.ty T)) := by
  obtain ⟨h1, h2, h3⟩ := isBlt_ok hd
  obtain ⟨d1, d2, d3⟩ := okName_ok h1
  exact pe_bltn (C.gl h2) (C.g.blt t h3) hv rfl d3 d1
theorem pv_isi (C : Cok X c Wx k call) (hev : ∀ e, PV X Wx e fun g => ev g e) (p : Pos) (es : List Expr) (hd : isBlt c "isinstance" = true) (hs : noStars es = true) :
    PV X Wx (.Call (.Name "isinstance" p) es [] pos) fun g => isiE (ev g) c es := by
  have bad : ∀ (es : List Expr), (∀ g, isiE (ev g) c es = halt) → PV X Wx (.Call (.Name "isinstance" p) es [] pos) fun g => isiE (ev g) c es := fun es h => pe_no fun σ H Q t => tX.no (tX.imp t h)
  match es, hs with
  | [], _ => exact bad _ fun g => rfl
  | [a], _ => exact bad _ fun g => rfl
  | a :: b :: d :: r, _ => exact bad _ fun g => by cases b <;> rfl
  | [a, b], hs =>
    cases b with
    | Name t tp =>
      cases hc : (isBlt c t && classN t) with
      | false => exact bad _ fun g => by simp only [isiE, hc]
      | true =>
        rw [Bool.and_eq_true] at hc
        obtain ⟨c1, c2⟩ := hc
        obtain ⟨T', hT⟩ := class_boot c2
        obtain ⟨h1, h2, h3⟩ := isBlt_ok hd
        obtain ⟨d1, d2, d3⟩ := okName_ok h1
        refine pe_weak (pe_callB (call_isi (X := X)) (C.gl h2) (C.g.blt _ h3) PyProof.Rows.boot_isinstance (pa_cons (hev a) (pa_cons (pe_class C t tp c1 hT) pa_nil) (not_star (noStars_cons hs).1 _ _)) d3 d1 (not_star (noStars_cons hs).1 _ _) rfl) fun σ H Q t0 => ?_
        obtain ⟨Xx, g, m, S, sm, rg, p0⟩ := t0
        have p0 : Post X.K X.mg Xx (Rw X.K Xx) m S H (bnd (ev g a) (fun x => fun S => match typeName S x with
          | some n => match isInst n t with
            | some b => .ok (.dat (.bool b)) S
            | none => .stuck
          | none => .stuck) S) Q (WE Wx σ) := by
          have q := p0
          dsimp only at q
          simp only [isiE, c1, c2, Bool.and_self] at q
          exact q
        refine (step_in (R := fun Xx => Rw X.K Xx) (f := fun g => ev g a) sm rg p0).mono fun v H1 ⟨m1, S1, x, s1, rg1, pv1, r1, p1⟩ => ?_
        cases e1 : typeName S1 x with
        | none => rw [e1] at p1; exact p1.elim
        | some n =>
          rw [e1] at p1
          dsimp only at p1
          obtain ⟨hn, ty⟩ := typeName_ok s1 r1 e1
          cases e2 : isInst n t with
          | none => rw [e2] at p1; exact p1.elim
          | some b =>
            rw [e2] at p1
            obtain ⟨T2, hb2, hk⟩ := kit_name (K := X.K) hn e2
            rw [hT] at hb2
            injection hb2 with hb2
            injection hb2 with hb2
            subst hb2
            exact ⟨v, .ty T', .type n, .type T', b, rfl, .ty _, ty, hk, Post.ok p1 s1 Pv.refl (rw_bool _)⟩
    | _ => exact bad _ fun g => rfl
/-- f(a, ..) -/
theorem pv_callE (C : Cok X c Wx k call) (hev : ∀ e, PV X Wx e fun g => ev g e) (f : Str) (p : Pos) (live : Bool) (es : List Expr) :
    PV X Wx (.Call (.Name f p) es [] pos) fun g => callE call (ev g) c live f es := by
  have bad : ∀ (es : List Expr), (∀ g, callE call (ev g) c live f es = halt) → PV X Wx (.Call (.Name f p) es [] pos) fun g => callE call (ev g) c live f es := fun es h => pe_no fun σ H Q t => tX.no (tX.imp t h)
  cases es with
  | nil => exact bad _ fun g => rfl
  | cons a as =>
    cases hs : noStars (a :: as) with
    | false => exact bad _ fun g => by simp only [callE, hs]
    | true =>
      cases hd : isDef c f with
      | true =>
        refine pe_weak (pv_call C hev f p a as hd hs) fun σ H Q t => tX.imp t fun g => ?_
        simp only [callE, hs, hd]
      | false =>
        cases hb : isBlt c f with
        | false => exact bad _ fun g => by simp only [callE, hs, hd, hb]
        | true =>
          by_cases hi : f = "isinstance"
          · subst hi
            refine pe_weak (pv_isi C hev p (a :: as) hb hs) fun σ H Q t => tX.imp t fun g => ?_
            simp only [callE, hs, hd, hb]
            exact if_pos trivial
          · cases hk : knownB f with
            | false =>
              refine bad _ fun g => ?_
              simp only [callE, hs, hd, hb, hk]
              exact if_neg hi
            | true =>
              refine pe_weak (pv_blt C hev f p a as live hk hb hs) fun σ H Q t => tX.imp t fun g => ?_
              simp only [callE, hs, hd, hb, hk]
              exact if_neg hi
end
end Mp
end

section
set_option Elab.async false
set_option linter.all false
set_option maxRecDepth 100000
set_option maxHeartbeats 400000
set_option autoImplicit false
/-! Mp15: soundness, methods, builtins of builtins, a dict's display. -/
namespace Mp
open PySem PySem.Spec L2
section
variable {X : Cx} {Wx : WX} {c : Cfg} {k : Nat} {call : Str → List W → M W} {ev : Slots → Expr → M W} {pos : Pos}
theorem base_ok {b : Expr} (h : plainBase b = true) (m : Str) (env : Env) : attributeBase b m env (eval b env) = eval b env := by
  cases b <;> first | rfl | cases h
theorem few_ok {es : List Expr} (hs : noStars es = true) (hn : es.length < 30) (cpos : Pos) (env : Env) :
    ((backTo cpos (starEach es env)).all (fun x => !x.1) && (backToKw cpos (keywordEach [] env)).all (fun x => x.1.isSome)
      && decide (es.length + ([] : List Keyword).length + (if ([] : List Keyword).isEmpty then 0 else 1) < 30)) = true := by
  rw [no_star_all hs]
  have e : (backToKw cpos (keywordEach [] env)).all (fun x => x.1.isSome) = true := rfl
  rw [e]
  simp only [Bool.true_and, decide_eq_true_eq]
  show es.length + 0 + 0 < 30
  omega
/-- a method with arguments -/
theorem pv_meth1 (hev : ∀ e, PV X Wx e fun g => ev g e) {b : Expr} {m : Str} {apos cpos : Pos} {T id : String} {r : V → List V → Hp → VK → Prop} (e : Expr) (es : List Expr) (hs : noStars (e :: es) = true) (hn : (e :: es).length < 30) (hl : lineOk apos cpos = true) (hb : plainBase b = true)
    (pa : PlainAttrs T) (slot : Slot T m id) (hty : typeOf (.builtin id) = pure (.type "method_descriptor")) (hm : MtR X id r)
    (hT : ∀ (x : V) (H : Hp), (mKind m = some true ∧ tyV X.K "list" x H ∨ mKind m = some false ∧ tyV X.K "dict" x H) → tyV X.K T x H) (hr : ∀ (x : V) (xs : List V) (H : Hp) (Q : VK), rMeth X.K m x xs H Q → r x xs H Q) :
    PV X Wx (.Call (.Attribute b m apos) (e :: es) [] cpos) fun g => bnd (ev g b) fun x => bnd (recv m x) fun _ => bnd (evs (ev g) (e :: es)) fun ws => method x m ws :=
  pe_weak (pe_bm pa slot hty hm (hev b) (pa_evs hev (e :: es) hs) (base_ok hb m _) (few_ok hs hn cpos _) hl (not_star (noStars_cons hs).1 _ _) (no_star_back (noStars_cons hs).2 cpos _)) fun σ H Q t => by
    obtain ⟨Xx, g, m0, S, s, rg, p⟩ := t
    refine (step_in (R := fun Xx => Rw X.K Xx) (f := fun g => ev g b) s rg p).mono fun x H1 ⟨m1, S1, w, s1, rg1, pv1, r1, p1⟩ => ?_
    obtain ⟨ty, S2, m2, s2, rg2, rx, p2⟩ := recv_ok s1 (Q := fun _ H' => ∃ S2 m2, Sim X.K Xx m2 S2 H' ∧ Rg X.K Xx m2 S2 H' g σ ∧ Rw X.K Xx m2 S2 H' w x ∧ Post X.K X.mg Xx (Rw X.K Xx) m2 S2 H' (bnd (evs (ev g) (e :: es)) (fun ws => method w m ws) S2) Q (WE Wx σ)) r1
      ((Post.bnd p1).mono fun _ H2 ⟨_, S2, m2, s2, pv2, _, p2⟩ => ⟨S2, m2, s2, Rg.mono pv2 rg1, Rw.mono pv2 _ _ r1, p2⟩)
    refine ⟨hT x H1 ty, (step_in (R := fun Xx => Rws X.K Xx) (f := fun g => evs (ev g) (e :: es)) s2 rg2 p2).mono fun vs H3 ⟨m3, S3, ws, s3, rg3, pv3, r3, p3⟩ => hr x vs H3 Q (method_ok s3 (Rw.mono pv3 _ _ rx) r3 p3)⟩
/-- .. without -/
theorem pv_meth0 (hev : ∀ e, PV X Wx e fun g => ev g e) {b : Expr} {m : Str} {apos cpos : Pos} {T id : String} {r : V → List V → Hp → VK → Prop} (hl : lineOk apos cpos = true) (hb : plainBase b = true)
    (pa : PlainAttrs T) (slot : Slot T m id) (hty : typeOf (.builtin id) = pure (.type "method_descriptor")) (hm : MtR X id r)
    (hT : ∀ (x : V) (H : Hp), (mKind m = some true ∧ tyV X.K "list" x H ∨ mKind m = some false ∧ tyV X.K "dict" x H) → tyV X.K T x H) (hr : ∀ (x : V) (xs : List V) (H : Hp) (Q : VK), rMeth X.K m x xs H Q → r x xs H Q) :
    PV X Wx (.Call (.Attribute b m apos) [] [] cpos) fun g => bnd (ev g b) fun x => bnd (recv m x) fun _ => bnd (evs (ev g) []) fun ws => method x m ws :=
  pe_weak (pe_bm0 pa slot hty hm (hev b) (base_ok hb m _) hl) fun σ H Q t => by
    obtain ⟨Xx, g, m0, S, s, rg, p⟩ := t
    refine (step_in (R := fun Xx => Rw X.K Xx) (f := fun g => ev g b) s rg p).mono fun x H1 ⟨m1, S1, w, s1, rg1, pv1, r1, p1⟩ => ?_
    obtain ⟨ty, q⟩ := recv_ok s1 (Q := fun _ H' => rMeth X.K m x [] H' Q) r1
      ((Post.bnd p1).mono fun _ H2 ⟨_, S2, m2, s2, pv2, _, p2⟩ => method_ok s2 (Rw.mono pv2 _ _ r1) .nil p2)
    exact ⟨hT x H1 ty, hr x [] H1 Q q⟩
theorem pv_meth (C : Cok X c Wx k call) (hev : ∀ e, PV X Wx e fun g => ev g e) (b : Expr) (m : Str) (apos cpos : Pos) (es : List Expr) (hs : noStars es = true) (hn : methN m es.length = true) (hl : lineOk apos cpos = true) (hb : plainBase b = true) :
    PV X Wx (.Call (.Attribute b m apos) es [] cpos) fun g => bnd (ev g b) fun x => bnd (recv m x) fun _ => bnd (evs (ev g) es) fun ws => method x m ws := by
  have hu := C.units
  unfold methN at hn
  simp only [Bool.or_eq_true, decide_eq_true_eq] at hn
  rcases hn with (((⟨e, n⟩ | ⟨e, n⟩) | ⟨e, n⟩) | ⟨e, n⟩) | ⟨e, n⟩
  · subst e
    match es, n, hs with
    | [e], _, hs =>
      exact pv_meth1 hev e [] hs (by simp) hl hb PySem.F.plainAttrs_list PySem.F.slot_list_append PySem.F.type_list_append mt_append
        (fun x H h => h.elim (fun q => q.2) fun q => absurd q.1 (by decide)) fun x xs H Q h => by
          rcases h with ⟨_, q⟩ | ⟨z, _⟩ | ⟨z, _⟩ | ⟨z, _⟩ | ⟨z, _⟩
          · exact q
          all_goals exact absurd z (by decide)
  · subst e
    match es, n, hs with
    | [], _, hs =>
      exact pv_meth0 hev hl hb PySem.F.plainAttrs_list PySem.F.slot_list_pop PySem.F.type_list_pop mt_pop
        (fun x H h => h.elim (fun q => q.2) fun q => absurd q.1 (by decide)) fun x xs H Q h => by
          rcases h with ⟨z, _⟩ | ⟨_, q⟩ | ⟨z, _⟩ | ⟨z, _⟩ | ⟨z, _⟩
          · exact absurd z (by decide)
          · exact q
          all_goals exact absurd z (by decide)
  · subst e
    match es, n, hs with
    | [e], _, hs =>
      exact pv_meth1 hev e [] hs (by simp) hl hb PySem.F.plainAttrs_list PySem.F.slot_list_index PySem.F.type_list_index (mt_indexD (by omega))
        (fun x H h => h.elim (fun q => q.2) fun q => absurd q.1 (by decide)) fun x xs H Q h => by
          rcases h with ⟨z, _⟩ | ⟨z, _⟩ | ⟨_, q⟩ | ⟨z, _⟩ | ⟨z, _⟩
          · exact absurd z (by decide)
          · exact absurd z (by decide)
          · exact q
          all_goals exact absurd z (by decide)
  · subst e
    match es, n, hs with
    | [e, e2], _, hs =>
      exact pv_meth1 hev e [e2] hs (by simp) hl hb PySem.F.plainAttrs_dict PySem.F.slot_dict_setdefault PySem.F.type_dict_setdefault (mt_setdc (by omega))
        (fun x H h => h.elim (fun q => absurd q.1 (by decide)) fun q => q.2) fun x xs H Q h => by
          rcases h with ⟨z, _⟩ | ⟨z, _⟩ | ⟨z, _⟩ | ⟨_, q⟩ | ⟨z, _⟩
          · exact absurd z (by decide)
          · exact absurd z (by decide)
          · exact absurd z (by decide)
          · exact q
          all_goals exact absurd z (by decide)
  · subst e
    have go : ∀ (e : Expr) (es : List Expr), noStars (e :: es) = true → (e :: es).length < 30 → PV X Wx (.Call (.Attribute b "get" apos) (e :: es) [] cpos) fun g => bnd (ev g b) fun x => bnd (recv "get" x) fun _ => bnd (evs (ev g) (e :: es)) fun ws => method x "get" ws := fun e es hs hn =>
      pv_meth1 hev e es hs hn hl hb PySem.F.plainAttrs_dict PySem.F.slot_dict_get PySem.F.type_dict_get (mt_getc (by omega))
        (fun x H h => h.elim (fun q => absurd q.1 (by decide)) fun q => q.2) fun x xs H Q h => by
          rcases h with ⟨z, _⟩ | ⟨z, _⟩ | ⟨z, _⟩ | ⟨z, _⟩ | ⟨_, q⟩
          · exact absurd z (by decide)
          · exact absurd z (by decide)
          · exact absurd z (by decide)
          · exact absurd z (by decide)
          · exact q
    match es, n, hs with
    | [e], _, hs => exact go e [] hs (by simp)
    | [e, e2], _, hs => exact go e [e2] hs (by simp)
    | [], n, _ => exact absurd n (by simp)
    | _ :: _ :: _ :: _, n, _ => exact absurd n (by simp)
end
end Mp
end

section
set_option Elab.async false
set_option linter.all false
set_option maxRecDepth 100000
set_option maxHeartbeats 400000
set_option autoImplicit false
/-! Mp16: soundness, builtins of builtins, a dict's display. -/
namespace Mp
open PySem PySem.Spec L2
section
variable {X : Cx} {Wx : WX} {c : Cfg} {k : Nat} {call : Str → List W → M W} {ev : Slots → Expr → M W} {pos : Pos}
theorem star1 {a : Expr} (h : isStar a = false) (env : Env) : starEach [a] env = (false, eval a env) :: starEach [] env := not_star h env []
theorem pv_listRg (C : Cok X c Wx k call) {fa : Slots → M W} {a : Expr} (ha : PV X Wx a fa) (p p2 q : Pos) (live : Bool) (h1 : isBlt c "list" = true) (h2 : isBlt c "range" = true) (hs : isStar a = false) :
    PV X Wx (.Call (.Name "list" p) [.Call (.Name "range" p2) [a] [] q] [] pos) fun g => bnd (fa g) (listRg live) := by
  obtain ⟨a1, a2, a3⟩ := isBlt_ok h1
  obtain ⟨b1, b2, b3⟩ := isBlt_ok h2
  refine pe_weak (pe_listRg C.calm (C.gl a2) (C.g.blt _ a3) (prg_1 (C.gl b2) (C.g.blt _ b3) ha (star1 hs _))) fun σ H Q t => ?_
  obtain ⟨Xx, g, m, S, s, rg, p⟩ := t
  refine (step_in (R := fun Xx => Rw X.K Xx) (f := fa) s rg p).mono fun v H1 ⟨m1, S1, x, s1, rg1, pv1, r1, p1⟩ => ?_
  obtain ⟨n, e, h, q⟩ := listRg_ok s1 r1 p1
  exact ⟨n, e, h, q⟩
def tLenSet (K : PySem.W.Frag) (ta : TE) : TE := fun σ H Q => ta σ H fun x H1 => ∃ (l : Addr) (ns : List Int), x = V.ref l ∧ SqL K H1 l (ns.map V.int) ∧ ns.length ≤ 4000 ∧ Q (.int (kindsOf ns : Nat)) H1
theorem kindsOf_le (f : Nat → Int) : ∀ n, (PyProof.Rows.firstMet f n).length ≤ n
  | 0 => Nat.le_refl _
  | n + 1 => by
    rw [PyProof.Rows.firstMet_succ]
    have := kindsOf_le f n
    unfold PyProof.Rows.step_dedup
    split
    · omega
    · rw [List.length_append, List.length_singleton]; omega
theorem pe_lenSet (C : Cok X c Wx k call) {a : Expr} {ta : TE} (ha : PE X a ta) (p p2 q : Pos) (h1 : isBlt c "len" = true) (h2 : isBlt c "set" = true) (hs : isStar a = false) :
    PE X (.Call (.Name "len" p) [.Call (.Name "set" p2) [a] [] q] [] pos) (tLenSet X.K ta) := by
  obtain ⟨a1, a2, a3⟩ := isBlt_ok h1
  obtain ⟨b1, b2, b3⟩ := isBlt_ok h2
  refine ⟨fun pins s σ H Q I t => ?_⟩
  refine PyProof.Rows.Call_ (ld_blt I (C.gl a2) (C.g.blt _ a3) PySem.boot_len ?_)
  refine PyProof.Rows.callWith_builtin1 (PyProof.Rows.args_cons ?_ rfl) rfl rfl
  refine PyProof.Rows.Call_ (ld_blt I (C.gl b2) (C.g.blt _ b3) PyProof.Rows.boot_set ?_)
  refine PyProof.Rows.callWith_type1 (PyProof.Rows.args_cons (thn (ha.run pins s σ H _ I t) fun v s1 hh => PyProof.Rows.args_nil ?_) (star1 hs _)) (star1 hs _) rfl
  obtain ⟨x, H1, I1, r1, l, ns, ex, hq, hn, q1⟩ := hh
  subst ex
  cases r1
  obtain ⟨its, r, pl, hz⟩ := I1.list hq
  have es : its.toArray.size = ns.length := by simp [← r.length]
  have nl := kindsOf_le (fun i => ns.getD i 0) ns.length
  refine PySem.call_set_list (I1.ok.hd C.calm) pl.isList (by simpa using RZ.intsAre_vals r) (by rw [es]; unfold scanBound; omega) fun h' tk made kept => PyProof.Rows.args_nil ?_
  rw [es] at made
  obtain ⟨o, els, ep, tb, g1, g2, g3, _, _, _, g4, g5⟩ := made
  have J : Inv X pins σ H1 { s1 with heap := h', toks := tk } := I1.kept fun b o' e => kept b o' (Heap.lt_size e) e
  exact call_len_set g1 g2 g3 g4 (by rw [g5]; omega) ⟨.int (kindsOf ns : Nat), H1, J.tok _, ⟨_, by rw [g5]; rfl⟩, q1⟩
theorem pv_lenSet (C : Cok X c Wx k call) {fa : Slots → M W} {a : Expr} (ha : PV X Wx a fa) (p p2 q : Pos) (h1 : isBlt c "len" = true) (h2 : isBlt c "set" = true) (hs : isStar a = false) :
    PV X Wx (.Call (.Name "len" p) [.Call (.Name "set" p2) [a] [] q] [] pos) fun g => bnd (fa g) lenSet :=
  pe_weak (pe_lenSet C ha p p2 q h1 h2 hs) fun σ H Q t => by
    obtain ⟨Xx, g, m, S, s, rg, p⟩ := t
    exact (step_in (R := fun Xx => Rw X.K Xx) (f := fa) s rg p).mono fun v H1 ⟨m1, S1, x, s1, rg1, pv1, r1, p1⟩ => lenSet_ok s1 r1 p1
/-- {k: v} -/
theorem pv_disp (hev : ∀ e, PV X Wx e fun g => ev g e) (a b : Expr) : PV X Wx (.Dict [some a] [b] pos) fun g => dispE (ev g) a b := by
  refine pe_weak (pe_disp (pps_cons (hev a) (hev b) pps_nil) rfl rfl (by simp) (by simp)) fun σ H Q t => ?_
  obtain ⟨Xx, g, m, S, s, rg, p⟩ := t
  intro q hq
  have hb : (Ob.dk []).below S.length = true := rfl
  unfold dispE at p
  have p : Post X.K X.mg Xx (Rw X.K Xx) m S H ((bnd (ev g a) fun x => bnd (ev g b) fun y => match W.obj S.length, x with
    | .obj n, .dat d => match keyOf d with
      | some key => bnd (inside n y) fun y => fun S => match S[n]? with
        | some (some (.dk [])) => .ok (.obj n) (S.set n (some (.dk [(key, y)])))
        | _ => .stuck
      | none => halt
    | _, _ => halt) (S ++ [some (.dk [])])) Q (WE Wx σ) := by
    have q0 := p
    dsimp only [Mp.bnd, alloc] at q0 ⊢
    rw [if_pos hb] at q0
    exact q0
  have s0 := s.alloc (o := .dk []) hq hb (.dk .nil)
  have pv0 : Pv m S H (m ++ [q]) (S ++ [some (.dk [])]) (upd H q (.dK [])) := Pv.alloc s hq
  have at0 : (m ++ [q])[S.length]? = some q := by rw [← s.len]; simp
  have p := p.from pv0
  refine (step_in (R := fun Xx => Rw X.K Xx) (f := fun g => ev g a) s0 (Rg.mono pv0 rg) p).mono fun x H1 ⟨m1, S1, w1, s1, rg1, pv1, r1, p1⟩ => ?_
  refine (step_in (R := fun Xx => Rw X.K Xx) (f := fun g => ev g b) s1 rg1 p1).mono fun y H2 ⟨m2, S2, w2, s2, rg2, pv2, r2, p2⟩ => ?_
  have at2 := pv2.pre _ _ (pv1.pre _ _ at0)
  cases w1 with
  | con z => exact p2.elim
  | obj z => exact p2.elim
  | dat d =>
    dsimp only at p2
    cases ek : keyOf d with
    | none => rw [ek] at p2; exact p2.elim
    | some key =>
      rw [ek] at p2
      dsimp only at p2
      have hk : x = kV key := keyOf_ok ek (show Rp _ _ _ _ from r1)
      subst hk
      dsimp only [Mp.bnd] at p2
      cases ei : inside S.length w2 S2 with
      | stuck => rw [ei] at p2; exact p2.elim
      | exc x S' =>
        rcases inside_res (S := S2) (n := S.length) (w := w2) with ⟨x', S3, e3⟩ | e3
        · rw [e3] at ei; cases ei
        · rw [e3] at ei; cases ei
      | ok w3 S3 =>
        rw [ei] at p2
        dsimp only at p2
        obtain ⟨s3, pv3, r3, lo3⟩ := inside_ok s2 r2 ei
        split at p2
        · rename_i en
          obtain ⟨a', ho, e1, e2, ro⟩ := s3.ob _ _ en
          rw [at2] at e1
          cases e1
          cases ro with
          | dk rr =>
            cases rr
            refine ⟨e2, [(key, y)], rfl, by simp, ?_⟩
            have lo : (Ob.dk [(key, w3)]).below S.length = true := by simpa [Ob.below] using lo3
            have ro' : Ro X.K Xx m2 S3 H2 (.dk [(key, w3)]) (.dK [(key, y)]) := .dk (.cons ⟨rfl, r3⟩ .nil)
            have em : mergeK [] [(key, y)] = [(key, y)] := rfl
            rw [em]
            refine Post.ok p2 (s3.write en at2 lo ro') (pv3.trans (Pv.write en at2)) ⟨q, at2, rfl⟩
        · exact p2.elim
end
end Mp
end

section
set_option Elab.async false
set_option linter.all false
set_option maxRecDepth 100000
set_option maxHeartbeats 400000
set_option autoImplicit false
/-! Mp17: soundness, what is walked. -/
namespace Mp
open PySem PySem.Spec L2
/-- the address of a walked thing: it stays, or is the module's -/
def Sta (K : PySem.W.Frag) (Dd : Addr → Prop) (m : List Addr) (S : Store) (H : Hp) (a : Addr) (vs : List V) : Prop := (Rd H a (.lst vs) ∧ ¬ Live m S a ∧ ¬ Dd a) ∨ ∀ H, SqL K H a vs
def StaT (K : PySem.W.Frag) (Dd : Addr → Prop) (m : List Addr) (S : Store) (H : Hp) (a : Addr) (vs : List V) : Prop := (Rd H a (.tup vs) ∧ ¬ Live m S a ∧ ¬ Dd a) ∨ ∀ H, SqT K H a vs
/-- the tuples of three lists, in turn -/
def Itz3 (K : PySem.W.Frag) (a b c : Addr) : It :=
  ⟨fun i H => ∃ (xs ys zs : List V) (x y z : V), SqL K H a xs ∧ SqL K H b ys ∧ SqL K H c zs ∧ xs[i]? = some x ∧ ys[i]? = some y ∧ zs[i]? = some z,
    fun i H v H' => ∃ T x y z, v = .ref T ∧ H T = none ∧ H' = upd H T (.tup [x, y, z]) ∧ (∀ xs, SqL K H a xs → xs[i]? = some x) ∧ (∀ ys, SqL K H b ys → ys[i]? = some y) ∧ ∀ zs, SqL K H c zs → zs[i]? = some z,
    fun i H => ∃ xs ys zs : List V, SqL K H a xs ∧ SqL K H b ys ∧ SqL K H c zs ∧ i ≤ xs.length ∧ i ≤ ys.length ∧ i ≤ zs.length ∧ (i = xs.length ∨ i = ys.length ∨ i = zs.length)⟩
inductive Good (K : PySem.W.Frag) (Dd Xx : Addr → Prop) (m : List Addr) (S : Store) (H : Hp) : It → List W → Prop
  | lst {a : Addr} {vs : List V} {ws : List W} (h : Sta K Dd m S H a vs) (r : Rws K Xx m S H ws vs) : Good K Dd Xx m S H (Itl K a) ws
  | tup {a : Addr} {vs : List V} {ws : List W} (h : StaT K Dd m S H a vs) (r : Rws K Xx m S H ws vs) : Good K Dd Xx m S H (Itt K a) ws
  | rng (lo : Int) (n : Nat) : Good K Dd Xx m S H (Itr lo n) (rangeL lo n)
  | str (x : Str) : Good K Dd Xx m S H (Its x) (x.cps.toList.map fun c => .dat (.str ⟨#[c]⟩))
  | enm {a : Addr} {vs : List V} {ds : List PyData} (h : Sta K Dd m S H a vs) (r : Rps (LX Xx m S) H ds vs) : Good K Dd Xx m S H (Ite K a) (enumL 0 ds)
  | zip {a b : Addr} {vs us : List V} {ds es : List PyData} (h : Sta K Dd m S H a vs) (h2 : Sta K Dd m S H b us) (r : Rps (LX Xx m S) H ds vs) (r2 : Rps (LX Xx m S) H es us) : Good K Dd Xx m S H (Itz K a b) (zipL ds es)
  | zp3 {a b c : Addr} {vs us zs : List V} {ds es fs : List PyData} (h : Sta K Dd m S H a vs) (h2 : Sta K Dd m S H b us) (h3 : Sta K Dd m S H c zs) (r : Rps (LX Xx m S) H ds vs) (r2 : Rps (LX Xx m S) H es us) (r3 : Rps (LX Xx m S) H fs zs) : Good K Dd Xx m S H (Itz3 K a b c) (zip3L ds es fs)
section
variable {K : PySem.W.Frag} {Dd Xx Xx' : Addr → Prop} {m m' : List Addr} {S S' : Store} {H H' : Hp} {J : It} {ws : List W}
/-- from one state to another, the unstable ones among them -/
structure Px (Xx : Addr → Prop) (m : List Addr) (S : Store) (H : Hp) (Xx' : Addr → Prop) (m' : List Addr) (S' : Store) (H' : Hp) : Prop where
  pre : ∀ (n : Nat) (a : Addr), m[n]? = some a → m'[n]? = some a
  stay : ∀ (a : Addr) (u : HO), ¬ LX Xx m S a → H a = some u → H' a = some u ∧ ¬ LX Xx' m' S' a
theorem Pv.px (p : Pv m S H m' S' H') : Px Xx m S H Xx m' S' H' :=
  ⟨p.pre, fun a u n h => ⟨(p.stay a u (fun l => n (.inl l)) h).1, fun l => l.elim (p.stay a u (fun l => n (.inl l)) h).2 fun x => n (.inr x)⟩⟩
theorem Px.rp (p : Px Xx m S H Xx' m' S' H') {d : PyData} {v : V} (r : Rp (LX Xx m S) H d v) : Rp (LX Xx' m' S') H' d v := Rp.mono p.stay d v r
theorem Px.rps (p : Px Xx m S H Xx' m' S' H') {d : List PyData} {v : List V} (r : Rps (LX Xx m S) H d v) : Rps (LX Xx' m' S') H' d v := Rps.mono p.stay d v r
theorem Px.rw (p : Px Xx m S H Xx' m' S' H') : ∀ {w : W} {v : V}, Rw K Xx m S H w v → Rw K Xx' m' S' H' w v
  | .dat x, v, r => p.rp r
  | .con x, v, r => r
  | .obj n, v, ⟨a, e, q⟩ => ⟨a, p.pre n a e, q⟩
theorem Px.rws (p : Px Xx m S H Xx' m' S' H') {ws : List W} {vs : List V} (r : Rws K Xx m S H ws vs) : Rws K Xx' m' S' H' ws vs := paired_mono r fun w v => p.rw
theorem Px.rg (p : Px Xx m S H Xx' m' S' H') {g : Slots} {σ : St} (r : Rg K Xx m S H g σ) : Rg K Xx' m' S' H' g σ :=
  ⟨r.len, fun i w h => let ⟨v, e, q⟩ := r.at_ i w h; ⟨v, e, p.rw q⟩⟩
theorem Px.ro (p : Px Xx m S H Xx' m' S' H') {o : Ob} {ho : HO} (r : Ro K Xx m S H o ho) : Ro K Xx' m' S' H' o ho := by
  cases r with
  | lst r => exact .lst (p.rws r)
  | dk r => exact .dk (paired_mono r fun a b h => ⟨h.1, p.rw h.2⟩)
  | dt r => exact .dt (paired_mono r fun a b h => ⟨h.1, p.rw h.2⟩)
theorem rd_stay {a : Addr} {u : HO} (h : Rd H a u) (st : ∀ (o : HO), H a = some o → H' a = some o) : Rd H' a u := by
  rcases h with h | ⟨o, h⟩
  · exact .inl (st _ h)
  · exact .inr ⟨o, st _ h⟩
theorem Sta.mono (p : Pv m S H m' S' H') {a : Addr} {vs : List V} (h : Sta K Dd m S H a vs) : Sta K Dd m' S' H' a vs := by
  rcases h with ⟨h1, h2, h3⟩ | h
  · refine .inl ⟨rd_stay h1 fun o e => (p.stay a o h2 e).1, ?_, h3⟩
    rcases h1 with e | ⟨o, e⟩
    · exact (p.stay a _ h2 e).2
    · exact (p.stay a _ h2 e).2
  · exact .inr h
theorem StaT.mono (p : Pv m S H m' S' H') {a : Addr} {vs : List V} (h : StaT K Dd m S H a vs) : StaT K Dd m' S' H' a vs := by
  rcases h with ⟨h1, h2, h3⟩ | h
  · refine .inl ⟨rd_stay h1 fun o e => (p.stay a o h2 e).1, ?_, h3⟩
    rcases h1 with e | ⟨o, e⟩
    · exact (p.stay a _ h2 e).2
    · exact (p.stay a _ h2 e).2
  · exact .inr h
theorem Sta.sq {a : Addr} {vs : List V} (h : Sta K Dd m S H a vs) : SqL K H a vs := h.elim (fun h => .inl h.1) fun h => h H
theorem StaT.sq {a : Addr} {vs : List V} (h : StaT K Dd m S H a vs) : SqT K H a vs := h.elim (fun h => .inl h.1) fun h => h H
theorem Good.mono (p : Pv m S H m' S' H') (g : Good K Dd Xx m S H J ws) : Good K Dd Xx m' S' H' J ws := by
  cases g with
  | lst h r => exact .lst (h.mono p) (Rws.mono p r)
  | tup h r => exact .tup (h.mono p) (Rws.mono p r)
  | rng lo n => exact .rng lo n
  | str x => exact .str x
  | enm h r => exact .enm (h.mono p) ((Pv.px p).rps r)
  | zip h h2 r r2 => exact .zip (h.mono p) (h2.mono p) ((Pv.px p).rps r) ((Pv.px p).rps r2)
  | zp3 h h2 h3 r r2 r3 => exact .zp3 (h.mono p) (h2.mono p) (h3.mono p) ((Pv.px p).rps r) ((Pv.px p).rps r2) ((Pv.px p).rps r3)
/-- written at an unstable address -/
theorem Px.wr {D : Addr} {o : HO} (hX : Xx D) : Px Xx m S H Xx m S (upd H D o) := ⟨fun _ _ h => h, fun a u n h => ⟨by
  have ne : a ≠ D := fun z => n (.inr (by rw [z]; exact hX))
  rw [upd_ne ne]
  exact h, n⟩⟩
theorem Sta.wr {D : Addr} {o : HO} (hD : Dd D) {a : Addr} {vs : List V} (h : Sta K Dd m S H a vs) : Sta K Dd m S (upd H D o) a vs := by
  rcases h with ⟨h1, h2, h3⟩ | h
  · exact .inl ⟨rd_stay h1 fun o e => (upd_ne (fun z => h3 (by rw [z]; exact hD))).trans e, h2, h3⟩
  · exact .inr h
theorem StaT.wr {D : Addr} {o : HO} (hD : Dd D) {a : Addr} {vs : List V} (h : StaT K Dd m S H a vs) : StaT K Dd m S (upd H D o) a vs := by
  rcases h with ⟨h1, h2, h3⟩ | h
  · exact .inl ⟨rd_stay h1 fun o e => (upd_ne (fun z => h3 (by rw [z]; exact hD))).trans e, h2, h3⟩
  · exact .inr h
theorem Good.wr {D : Addr} {o : HO} (hD : Dd D) (hX : Xx D) (g : Good K Dd Xx m S H J ws) : Good K Dd Xx m S (upd H D o) J ws := by
  have p : Px Xx m S H Xx m S (upd H D o) := Px.wr hX
  cases g with
  | lst h r => exact .lst (h.wr hD) (p.rws r)
  | tup h r => exact .tup (h.wr hD) (p.rws r)
  | rng lo n => exact .rng lo n
  | str x => exact .str x
  | enm h r => exact .enm (h.wr hD) (p.rps r)
  | zip h h2 r r2 => exact .zip (h.wr hD) (h2.wr hD) (p.rps r) (p.rps r2)
  | zp3 h h2 h3 r r2 r3 => exact .zp3 (h.wr hD) (h2.wr hD) (h3.wr hD) (p.rps r) (p.rps r2) (p.rps r3)
theorem Sim.wr {D : Addr} {o : HO} (s : Sim K Xx m S H) (hX : Xx D) : Sim K Xx m S (upd H D o) where
  len := s.len
  inj := s.inj
  ob := fun n ob e => by
    obtain ⟨a, ho, e1, e2, r⟩ := s.ob n ob e
    have ne : a ≠ D := fun z => (s.ext D hX).2 ⟨n, ob, e, z ▸ e1⟩
    exact ⟨a, ho, e1, by rw [upd_ne ne]; exact e2, (Px.wr hX).ro r⟩
  low := s.low
  ext := fun a x => by
    obtain ⟨⟨u, e⟩, n⟩ := s.ext a x
    refine ⟨?_, n⟩
    by_cases q : a = D
    · subst q; exact ⟨o, upd_same⟩
    · exact ⟨u, by rw [upd_ne q]; exact e⟩
/-- one turn -/
def Turned (K : PySem.W.Frag) (Dd Xx : Addr → Prop) (m : List Addr) (S : Store) (H : Hp) (J : It) (ws : List W) (i : Nat) : Prop :=
  (ws[i]? = none → J.stop i H) ∧ ∀ w, ws[i]? = some w → J.go i H ∧ ∀ x H', J.yld i H x H' → Sim K Xx m S H' ∧ Pv m S H m S H' ∧ Rw K Xx m S H' w x
theorem rps_get {L : Addr → Prop} {H : Hp} : ∀ {ds : List PyData} {vs : List V}, Rps L H ds vs → ∀ {i : Nat} {d : PyData}, ds[i]? = some d → ∃ v, vs[i]? = some v ∧ Rp L H d v
  | [], vs, r, i, d, e => by simp at e
  | d0 :: ds, vs, r, i, d, e => by
    unfold Rps at r
    obtain ⟨v, t, ev, r1, r2⟩ := r
    subst ev
    cases i with
    | zero => simp at e; subst e; exact ⟨v, rfl, r1⟩
    | succ i => simp at e; obtain ⟨u, e1, e2⟩ := rps_get r2 e; exact ⟨u, by simpa using e1, e2⟩
theorem enumL_len : ∀ (n : Nat) (ds : List PyData), (enumL n ds).length = ds.length
  | _, [] => rfl
  | n, d :: ds => by unfold enumL; rw [List.length_cons, List.length_cons, enumL_len]
theorem enumL_get : ∀ (n : Nat) (ds : List PyData) (i : Nat), (enumL n ds)[i]? = (ds[i]?).map fun d => W.dat (.tuple [.int ((n + i : Nat)), d])
  | _, [], i => by unfold enumL; simp
  | n, d :: ds, 0 => by unfold enumL; simp
  | n, d :: ds, i + 1 => by
    unfold enumL
    rw [List.getElem?_cons_succ, List.getElem?_cons_succ, enumL_get (n + 1) ds i]
    have e : n + 1 + i = n + (i + 1) := by omega
    rw [e]
theorem zipL_get : ∀ (ds es : List PyData) (i : Nat), (zipL ds es)[i]? = match ds[i]?, es[i]? with
    | some x, some y => some (W.dat (.tuple [x, y]))
    | _, _ => none
  | [], es, i => by unfold zipL; simp
  | d :: ds, [], i => by unfold zipL; simp only [List.getElem?_nil]; split <;> simp_all
  | d :: ds, e :: es, 0 => by unfold zipL; simp
  | d :: ds, e :: es, i + 1 => by
    unfold zipL
    rw [List.getElem?_cons_succ, List.getElem?_cons_succ, List.getElem?_cons_succ, zipL_get ds es i]
theorem zip3L_get : ∀ (ds es fs : List PyData) (i : Nat), (zip3L ds es fs)[i]? = match ds[i]?, es[i]?, fs[i]? with
    | some x, some y, some z => some (W.dat (.tuple [x, y, z]))
    | _, _, _ => none
  | [], es, fs, i => by unfold zip3L; simp
  | d :: ds, [], fs, i => by unfold zip3L; simp only [List.getElem?_nil]; split <;> simp_all
  | d :: ds, e :: es, [], i => by unfold zip3L; simp only [List.getElem?_nil]; split <;> simp_all
  | d :: ds, e :: es, f :: fs, 0 => by unfold zip3L; simp
  | d :: ds, e :: es, f :: fs, i + 1 => by
    unfold zip3L
    rw [List.getElem?_cons_succ, List.getElem?_cons_succ, List.getElem?_cons_succ, List.getElem?_cons_succ, zip3L_get ds es fs i]
theorem zip3L_len : ∀ (ds es fs : List PyData), (zip3L ds es fs).length ≤ ds.length ∧ (zip3L ds es fs).length ≤ es.length ∧ (zip3L ds es fs).length ≤ fs.length
  | [], es, fs => by unfold zip3L; simp
  | d :: ds, [], fs => by unfold zip3L; simp
  | d :: ds, e :: es, [] => by unfold zip3L; simp
  | d :: ds, e :: es, f :: fs => by
    unfold zip3L
    have := zip3L_len ds es fs
    simp only [List.length_cons]
    omega
theorem none_len {α : Type} {l : List α} {i : Nat} (h : l[i]? = none) : l.length ≤ i := by
  rw [List.getElem?_eq_none_iff] at h
  exact h
/-- a new tuple of data at a turn -/
theorem new_tuple (s : Sim K Xx m S H) {T : Addr} (hT : H T = none) {xs : List PyData} {vs : List V} (r : Rps (LX Xx m S) H xs vs) :
    Sim K Xx m S (upd H T (.tup vs)) ∧ Pv m S H m S (upd H T (.tup vs)) ∧ Rw K Xx m S (upd H T (.tup vs)) (.dat (.tuple xs)) (.ref T) := by
  refine ⟨s.new hT, Pv.new hT s, ?_⟩
  show Rp _ _ _ _
  unfold Rp
  exact ⟨T, vs, rfl, upd_same, s.freshX hT, (Pv.px (Pv.new (o := .tup vs) hT s)).rps r⟩
theorem Good.step (s : Sim K Xx m S H) (g : Good K Dd Xx m S H J ws) (i : Nat) (hi : i ≤ ws.length) : Turned K Dd Xx m S H J ws i := by
  cases g with
  | @lst a vs ws h r =>
    have q := h.sq
    have hl := rws_len r
    refine ⟨fun e => ⟨vs, q, by have := none_len e; omega⟩, fun w e => ?_⟩
    obtain ⟨v, ev, rv⟩ := rws_get r e
    refine ⟨⟨vs, v, q, ev⟩, fun x H' y => ?_⟩
    obtain ⟨eH, y⟩ := y
    subst eH
    have e2 := y vs q
    rw [ev] at e2
    cases e2
    exact ⟨s, Pv.refl, rv⟩
  | @tup a vs ws h r =>
    have q := h.sq
    have hl := rws_len r
    refine ⟨fun e => ⟨vs, q, by have := none_len e; omega⟩, fun w e => ?_⟩
    obtain ⟨v, ev, rv⟩ := rws_get r e
    refine ⟨⟨vs, v, q, ev⟩, fun x H' y => ?_⟩
    obtain ⟨eH, y⟩ := y
    subst eH
    have e2 := y vs q
    rw [ev] at e2
    cases e2
    exact ⟨s, Pv.refl, rv⟩
  | rng lo n =>
    refine ⟨fun e => ?_, fun w e => ?_⟩
    · have := none_len e
      unfold rangeL at this
      rw [List.length_map, List.length_range] at this
      exact this
    · unfold rangeL at e
      rw [List.getElem?_map] at e
      cases q : (List.range n)[i]? with
      | none => rw [q] at e; cases e
      | some j =>
        rw [q] at e
        cases e
        have hj : i < n ∧ j = i := by
          obtain ⟨h1, h2⟩ := List.getElem?_eq_some_iff.mp q
          rw [List.length_range] at h1
          rw [List.getElem_range] at h2
          exact ⟨h1, h2.symm⟩
        refine ⟨hj.1, fun x H' y => ?_⟩
        obtain ⟨eH, y⟩ := y
        subst eH y
        rw [hj.2]
        exact ⟨s, Pv.refl, rw_int _⟩
  | str x =>
    refine ⟨fun e => ?_, fun w e => ?_⟩
    · have := none_len e
      rw [List.length_map, Array.length_toList] at this
      exact this
    · rw [List.getElem?_map] at e
      cases q : x.cps.toList[i]? with
      | none => rw [q] at e; cases e
      | some j =>
        rw [q] at e
        cases e
        have q2 : x.cps[i]? = some j := by rw [← q, Array.getElem?_toList]
        refine ⟨(Array.getElem?_eq_some_iff.mp q2).1, fun y H' yy => ?_⟩
        obtain ⟨eH, c, e1, e2⟩ := yy
        subst eH e2
        rw [q2] at e1
        cases e1
        exact ⟨s, Pv.refl, rw_str _⟩
  | @enm a vs ds h r =>
    have q := h.sq
    have hl := rps_len r
    refine ⟨fun e => ⟨vs, q, by have := none_len e; rw [enumL_len] at this; omega⟩, fun w e => ?_⟩
    rw [enumL_get] at e
    cases q2 : ds[i]? with
    | none => rw [q2] at e; cases e
    | some d =>
      rw [q2] at e
      cases e
      obtain ⟨v, ev, rv⟩ := rps_get r q2
      refine ⟨⟨vs, v, q, ev⟩, fun x H' y => ?_⟩
      obtain ⟨T, x', e1, hT, eH, y⟩ := y
      subst e1 eH
      have e2 := y vs q
      rw [ev] at e2
      cases e2
      refine new_tuple s hT ?_
      unfold Rps
      refine ⟨_, _, rfl, ?_, ?_⟩
      · unfold Rp
        rw [Nat.zero_add]
      · unfold Rps
        exact ⟨_, _, rfl, rv, by unfold Rps; rfl⟩
  | @zip a b vs us ds es h h2 r r2 =>
    have q := h.sq
    have q' := h2.sq
    have hl := rps_len r
    have hl2 := rps_len r2
    refine ⟨fun e => ?_, fun w e => ?_⟩
    · rw [zipL_get] at e
      refine ⟨vs, us, q, q', ?_⟩
      cases e1 : ds[i]? with
      | none => exact .inl (by have := none_len e1; omega)
      | some x =>
        cases e2 : es[i]? with
        | none => exact .inr (by have := none_len e2; omega)
        | some y => rw [e1, e2] at e; cases e
    · rw [zipL_get] at e
      cases e1 : ds[i]? with
      | none => rw [e1] at e; cases e
      | some d =>
        cases e2 : es[i]? with
        | none => rw [e1, e2] at e; cases e
        | some d2 =>
          rw [e1, e2] at e
          cases e
          obtain ⟨v, ev, rv⟩ := rps_get r e1
          obtain ⟨u, eu, ru⟩ := rps_get r2 e2
          refine ⟨⟨vs, us, v, u, q, q', ev, eu⟩, fun x H' y => ?_⟩
          obtain ⟨T, x', y', e3, hT, eH, y1, y2⟩ := y
          subst e3 eH
          have z1 := y1 vs q
          have z2 := y2 us q'
          rw [ev] at z1
          rw [eu] at z2
          cases z1
          cases z2
          refine new_tuple s hT ?_
          unfold Rps
          refine ⟨_, _, rfl, rv, ?_⟩
          unfold Rps
          exact ⟨_, _, rfl, ru, by unfold Rps; rfl⟩
  | @zp3 a b c vs us zs ds es fs h h2 h3 r r2 r3 =>
    have q := h.sq
    have q' := h2.sq
    have q'' := h3.sq
    have hl := rps_len r
    have hl2 := rps_len r2
    have hl3 := rps_len r3
    refine ⟨fun e => ?_, fun w e => ?_⟩
    · rw [zip3L_get] at e
      have hz := zip3L_len ds es fs
      refine ⟨vs, us, zs, q, q', q'', by omega, by omega, by omega, ?_⟩
      cases e1 : ds[i]? with
      | none => exact .inl (by have := none_len e1; omega)
      | some x =>
        cases e2 : es[i]? with
        | none => exact .inr (.inl (by have := none_len e2; omega))
        | some y =>
          cases e3 : fs[i]? with
          | none => exact .inr (.inr (by have := none_len e3; omega))
          | some z => rw [e1, e2, e3] at e; cases e
    · rw [zip3L_get] at e
      cases e1 : ds[i]? with
      | none => rw [e1] at e; cases e
      | some d =>
        cases e2 : es[i]? with
        | none => rw [e1, e2] at e; cases e
        | some d2 =>
          cases e3 : fs[i]? with
          | none => rw [e1, e2, e3] at e; cases e
          | some d3 =>
            rw [e1, e2, e3] at e
            cases e
            obtain ⟨v, ev, rv⟩ := rps_get r e1
            obtain ⟨u, eu, ru⟩ := rps_get r2 e2
            obtain ⟨t, et, rt⟩ := rps_get r3 e3
            refine ⟨⟨vs, us, zs, v, u, t, q, q', q'', ev, eu, et⟩, fun x H' y => ?_⟩
            obtain ⟨T, x', y', z', e4, hT, eH, y1, y2, y3⟩ := y
            subst e4 eH
            have z1 := y1 vs q
            have z2 := y2 us q'
            have z3 := y3 zs q''
            rw [ev] at z1
            rw [eu] at z2
            rw [et] at z3
            cases z1
            cases z2
            cases z3
            refine new_tuple s hT ?_
            unfold Rps
            refine ⟨_, _, rfl, rv, ?_⟩
            unfold Rps
            refine ⟨_, _, rfl, ru, ?_⟩
            unfold Rps
            exact ⟨_, _, rfl, rt, by unfold Rps; rfl⟩
end
end Mp
end

section
set_option Elab.async false
set_option linter.all false
set_option maxRecDepth 100000
set_option maxHeartbeats 400000
set_option autoImplicit false
/-! Mp18: soundness, walks. -/
namespace Mp
open PySem PySem.Spec L2
/-- the walk of r by J, in this state -/
def GdW (K : PySem.W.Frag) (Dd Xx : Addr → Prop) (m : List Addr) (S : Store) (H : Hp) (J : It) : Wk → Prop
  | .list ws => Good K Dd Xx m S H J ws
  | .obj n => ∃ a, m[n]? = some a ∧ J = Itl K a
def LeW (r : Wk) (i : Nat) : Prop := match r with
  | .list ws => i ≤ ws.length
  | .obj _ => True
def PostW (K : PySem.W.Frag) (mg : Str → Option Value) (Xx : Addr → Prop) (m : List Addr) (S : Store) (H : Hp) (g : Slots) (σ : St) (r : Res Wk) (R : It → Hp → Prop) (E : XK) : Prop := match r with
  | .ok a S1 => ∀ (m1 : List Addr) (H1 : Hp) (J : It), Sim K Xx m1 S1 H1 → Rg K Xx m1 S1 H1 g σ → GdW K (fun _ => False) Xx m1 S1 H1 J a → Pv m S H m1 S1 H1 → R J H1
  | .exc x S' => ∀ (C : Addr) (d : Option Addr) (H' : Hp) (m' : List Addr), Sim K Xx m' S' H' → Pv m S H m' S' H' → mg x.cls = some (.ref C) → x.arg = none → d = none → E (.ref C) d H'
  | .stuck => False
def tI (K : PySem.W.Frag) (mg : Str → Option Value) (Wx : WX) (f : Slots → M Wk) : TI := fun σ H R => ∃ Xx g m S, Sim K Xx m S H ∧ Rg K Xx m S H g σ ∧ PostW K mg Xx m S H g σ (f g S) R (WE Wx σ)
section
variable {K : PySem.W.Frag} {mg : Str → Option Value} {Dd Xx Xx' : Addr → Prop} {m m' m1 : List Addr} {S S' S1 : Store} {H H' H1 : Hp} {g : Slots} {σ : St} {R : It → Hp → Prop} {E : XK} {α β : Type} {J : It} {r : Wk}
theorem GdW.mono (p : Pv m S H m' S' H') (g : GdW K Dd Xx m S H J r) : GdW K Dd Xx m' S' H' J r := by
  cases r with
  | list ws => exact Good.mono p g
  | obj n =>
    obtain ⟨a, e, ej⟩ := g
    exact ⟨a, p.pre n a e, ej⟩
theorem GdW.wr {D : Addr} {o : HO} (hD : Dd D) (hX : Xx D) (g : GdW K Dd Xx m S H J r) : GdW K Dd Xx m S (upd H D o) J r := by
  cases r with
  | list ws => exact Good.wr hD hX g
  | obj n => exact g
/-- a turn: the end, or an item -/
theorem GdW.step (s : Sim K Xx m S H) (g : GdW K Dd Xx m S H J r) (i : Nat) (hi : LeW r i) : nextW r i S = .stuck ∨ (nextW r i S = .ok none S ∧ J.stop i H) ∨
    ∃ w, nextW r i S = .ok (some w) S ∧ LeW r (i + 1) ∧ J.go i H ∧ ∀ x H', J.yld i H x H' → Sim K Xx m S H' ∧ Pv m S H m S H' ∧ Rw K Xx m S H' w x := by
  cases r with
  | list ws =>
    have st := Good.step s g i hi
    cases e : ws[i]? with
    | none => exact .inr (.inl ⟨by simp only [nextW, e], st.1 e⟩)
    | some w =>
      obtain ⟨go, y⟩ := st.2 w e
      exact .inr (.inr ⟨w, by simp only [nextW, e], (List.getElem?_eq_some_iff.mp e).1, go, y⟩)
  | obj n =>
    obtain ⟨a, ea, ej⟩ := g
    subst ej
    have key : nextW (.obj n) i S = (match S[n]? with
      | some (some (.lst ws)) => .ok ws[i]? S
      | _ => .stuck) := rfl
    rw [key]
    cases en : S[n]? with
    | none => exact .inl rfl
    | some oo =>
      cases oo with
      | none => exact .inl rfl
      | some ob =>
        cases ob with
        | dk _ => exact .inl rfl
        | dt _ => exact .inl rfl
        | lst ws =>
          obtain ⟨a', ho, e1, e2, ro⟩ := s.ob _ _ en
          rw [ea] at e1; cases e1
          cases ro with
          | @lst _ vs rs =>
            have q : SqL K H a vs := SqL.of e2
            have hl := rws_len rs
            cases e : ws[i]? with
            | none => exact .inr (.inl ⟨by simp only [e], vs, q, by have := none_len e; omega⟩)
            | some w =>
              obtain ⟨v, ev, rv⟩ := rws_get rs e
              refine .inr (.inr ⟨w, by simp only [e], trivial, ⟨vs, v, q, ev⟩, fun x H' y => ?_⟩)
              obtain ⟨eH, y⟩ := y
              subst eH
              have e3 := y vs q
              rw [ev] at e3
              cases e3
              exact ⟨s, Pv.refl, rv⟩
theorem PostW.from {r : Res Wk} (p : PostW K mg Xx m S H g σ r R E) (pv : Pv m S H m1 S1 H1) : PostW K mg Xx m1 S1 H1 g σ r R E := by
  cases r with
  | ok a S2 => exact fun m2 H2 J s rg gd pv' => p m2 H2 J s rg gd (pv.trans pv')
  | exc x S' => exact fun C d H' m' s pv' => p C d H' m' s (pv.trans pv')
  | stuck => exact p
theorem PostW.bnd {RR : List Addr → Store → Hp → α → β → Prop} {f : M α} {k : α → M Wk} (p : PostW K mg Xx m S H g σ (Mp.bnd f k S) R E) :
    Post K mg Xx RR m S H (f S) (fun y H1 => ∃ a S1 m1, Sim K Xx m1 S1 H1 ∧ Pv m S H m1 S1 H1 ∧ RR m1 S1 H1 a y ∧ PostW K mg Xx m1 S1 H1 g σ (k a S1) R E) E := by
  unfold Mp.bnd at p
  cases e : f S with
  | ok a S1 =>
    rw [e] at p
    exact fun y H1 m1 s pv r => ⟨a, S1, m1, s, pv, r, p.from pv⟩
  | exc x S' =>
    rw [e] at p
    exact p
  | stuck =>
    rw [e] at p
    exact p
/-- no lock -/
theorem PostW.plain {ws : List W} {J : It} (p : PostW K mg Xx m S H g σ (.ok (.list ws) S) R E) (s : Sim K Xx m S H) (rg : Rg K Xx m S H g σ) (gd : Good K (fun _ => False) Xx m S H J ws) : R J H := p m H J s rg gd Pv.refl
theorem rangeM_ok (s : Sim K Xx m S H) (rg : Rg K Xx m S H g σ) {x : W} {v : V} (rx : Rw K Xx m S H x v) (p : PostW K mg Xx m S H g σ (rangeM x S) R E) : ∃ j : Int, v = .int j ∧ -(2 ^ 62) ≤ j ∧ j < 2 ^ 62 ∧ R (Itr 0 j.toNat) H := by
  unfold rangeM at p
  split at p
  · rename_i n
    split at p
    · rename_i hc
      have e := rp_int rx
      unfold rgOk at hc
      simp only [Bool.and_eq_true, decide_eq_true_eq] at hc
      exact ⟨n, e, hc.1, hc.2, p.plain s rg (.rng 0 n.toNat)⟩
    · exact p.elim
  · exact p.elim
theorem range2M_ok (s : Sim K Xx m S H) (rg : Rg K Xx m S H g σ) {x y : W} {v u : V} (rx : Rw K Xx m S H x v) (ry : Rw K Xx m S H y u) (p : PostW K mg Xx m S H g σ (range2M x y S) R E) :
    ∃ i j : Int, v = .int i ∧ u = .int j ∧ (-(2 ^ 62) ≤ i ∧ i < 2 ^ 62 ∧ -(2 ^ 62) ≤ j ∧ j < 2 ^ 62) ∧ R (Itr i (j - i).toNat) H := by
  unfold range2M at p
  split at p
  · rename_i i j
    split at p
    · rename_i hc
      have e := rp_int rx
      have e2 := rp_int ry
      unfold rgOk at hc
      simp only [Bool.and_eq_true, decide_eq_true_eq] at hc
      exact ⟨i, j, e, e2, ⟨hc.1.1, hc.1.2, hc.2.1, hc.2.2⟩, p.plain s rg (.rng i _)⟩
    · exact p.elim
  · exact p.elim
theorem still_ok {x : W} {ds : List PyData} {v : V} (e : stillList x = some ds) (rx : Rw K Xx m S H x v) : ∃ a vs, v = .ref a ∧ Sta K (fun _ => False) m S H a vs ∧ Rps (LX Xx m S) H ds vs := by
  unfold stillList at e
  split at e
  · cases e
    have rx : Rp _ _ _ _ := rx
    unfold Rp at rx
    obtain ⟨a, vs, ev, rd, nl, rs⟩ := rx
    exact ⟨a, vs, ev, .inl ⟨rd, fun l => nl (.inl l), fun z => z⟩, rs⟩
  · cases e
theorem enumM_ok (s : Sim K Xx m S H) (rg : Rg K Xx m S H g σ) {x : W} {v : V} (rx : Rw K Xx m S H x v) (p : PostW K mg Xx m S H g σ (enumM x S) R E) : ∃ a xs, v = .ref a ∧ SqL K H a xs ∧ R (Ite K a) H := by
  unfold enumM at p
  cases e : stillList x with
  | none => rw [e] at p; exact p.elim
  | some ds =>
    rw [e] at p
    obtain ⟨a, vs, ev, st, rs⟩ := still_ok e rx
    exact ⟨a, vs, ev, st.sq, p.plain s rg (.enm st rs)⟩
theorem zipM_ok (s : Sim K Xx m S H) (rg : Rg K Xx m S H g σ) {x y : W} {v u : V} (rx : Rw K Xx m S H x v) (ry : Rw K Xx m S H y u) (p : PostW K mg Xx m S H g σ (zipM x y S) R E) :
    ∃ a b xs ys, v = .ref a ∧ u = .ref b ∧ SqL K H a xs ∧ SqL K H b ys ∧ R (Itz K a b) H := by
  unfold zipM at p
  cases e : stillList x with
  | none => simp only [e] at p; exact p.elim
  | some ds =>
  cases e2 : stillList y with
  | none => simp only [e, e2] at p; exact p.elim
  | some es =>
    simp only [e, e2] at p
    obtain ⟨a, vs, ev, st, rs⟩ := still_ok e rx
    obtain ⟨b, us, eu, st2, rs2⟩ := still_ok e2 ry
    exact ⟨a, b, vs, us, ev, eu, st.sq, st2.sq, p.plain s rg (.zip st st2 rs rs2)⟩
theorem zip3M_ok (s : Sim K Xx m S H) (rg : Rg K Xx m S H g σ) {x y z : W} {v u t : V} (rx : Rw K Xx m S H x v) (ry : Rw K Xx m S H y u) (rz : Rw K Xx m S H z t) (p : PostW K mg Xx m S H g σ (zip3M x y z S) R E) :
    ∃ a b c xs ys zs, v = .ref a ∧ u = .ref b ∧ t = .ref c ∧ SqL K H a xs ∧ SqL K H b ys ∧ SqL K H c zs ∧ R (Itz3 K a b c) H := by
  unfold zip3M at p
  cases e : stillList x with
  | none => simp only [e] at p; exact p.elim
  | some ds =>
  cases e2 : stillList y with
  | none => simp only [e, e2] at p; exact p.elim
  | some es =>
  cases e3 : stillList z with
  | none => simp only [e, e2, e3] at p; exact p.elim
  | some fs =>
    simp only [e, e2, e3] at p
    obtain ⟨a, vs, ev, st, rs⟩ := still_ok e rx
    obtain ⟨b, us, eu, st2, rs2⟩ := still_ok e2 ry
    obtain ⟨c, zs, ez, st3, rs3⟩ := still_ok e3 rz
    exact ⟨a, b, c, vs, us, zs, ev, eu, ez, st.sq, st2.sq, st3.sq, p.plain s rg (.zp3 st st2 st3 rs rs2 rs3)⟩
/-- what is walked: a list, a tuple, a str -/
theorem walkV_ok (s : Sim K Xx m S H) (rg : Rg K Xx m S H g σ) {x : W} {v : V} (rx : Rw K Xx m S H x v) (p : PostW K mg Xx m S H g σ (walkV x S) R E) :
    (∃ a, v = .ref a ∧ (∃ xs, SqL K H a xs) ∧ R (Itl K a) H) ∨ (∃ a, v = .ref a ∧ (∃ xs, SqT K H a xs) ∧ R (Itt K a) H) ∨ ∃ z, v = .str z ∧ R (Its z) H := by
  unfold walkV at p
  split at p
  · rename_i z
    split at p
    · exact .inr (.inr ⟨z, rp_str rx, p.plain s rg (.str z)⟩)
    · exact p.elim
  · rename_i n
    split at p
    · rename_i ws en
      obtain ⟨a, ea, ev⟩ := (show ∃ a, _ from rx)
      obtain ⟨a', ho, e1, e2, ro⟩ := s.ob _ _ en
      rw [ea] at e1; cases e1
      cases ro with
      | @lst _ vs r =>
        exact .inl ⟨a, ev, ⟨vs, SqL.of e2⟩, p m H (Itl K a) s rg ⟨a, ea, rfl⟩ Pv.refl⟩
    · exact p.elim
  · rename_i hx1 hx2
    split at p
    · rename_i b ws e
      unfold seqOf at e
      split at e
      · rename_i ds
        cases e
        have rx : Rp _ _ _ _ := rx
        unfold Rp at rx
        obtain ⟨a, vs, ev, rd, nl, rs⟩ := rx
        exact .inl ⟨a, ev, ⟨vs, .inl rd⟩, p.plain s rg (.lst (.inl ⟨rd, fun l => nl (.inl l), fun z => z⟩) (Rps.to_ws (L := fun _ => True) rs))⟩
      · rename_i ds
        cases e
        have rx : Rp _ _ _ _ := rx
        unfold Rp at rx
        obtain ⟨a, vs, ev, rd, nl, rs⟩ := rx
        exact .inr (.inl ⟨a, ev, ⟨vs, .inl (.inl rd)⟩, p.plain s rg (.tup (.inl ⟨.inl rd, fun l => nl (.inl l), fun z => z⟩) (Rps.to_ws (L := fun _ => True) rs))⟩)
      · cases e
        have rx : Rk _ _ _ := rx
        unfold Rk at rx
        obtain ⟨a, vs, ev, rd, rs⟩ := rx
        exact .inl ⟨a, ev, ⟨vs, rd H⟩, p.plain s rg (.lst (.inr rd) (rks_mkC rs))⟩
      · cases e
        have rx : Rk _ _ _ := rx
        unfold Rk at rx
        obtain ⟨a, vs, ev, rd, rs⟩ := rx
        exact .inr (.inl ⟨a, ev, ⟨vs, rd H⟩, p.plain s rg (.tup (.inr rd) (rks_mkC rs))⟩)
      · rename_i n
        exact absurd rfl (hx2 n)
      · cases e
    · exact p.elim
end
end Mp
end

section
set_option Elab.async false
set_option linter.all false
set_option maxRecDepth 100000
set_option maxHeartbeats 400000
set_option autoImplicit false
/-! Mp19: soundness, zip of three lists; a walk by its form. -/
namespace Mp
open PySem PySem.Spec L2
theorem turn_three {P : Program} {w : World} {K : PySem.W.Frag} {elts : List Expr} {kk : Nat} {tpos : Pos} {a b c z TI TO i1 i2 i3 : Addr} (D : ZipSep3 z TI TO i1 i2 i3 [i1, a] [i2, b] [i3, c]) :
    Turn P w K (.Tuple elts kk tpos) (Itz3 K a b c) [z, TI, TO, i1, i2, i3] z (fun i h => IsZip h z TI TO .none ∧ IsTupOf3 h TI (.ref i1) (.ref i2) (.ref i3) ∧ (∃ x y u, IsTupOf3 h TO x y u) ∧ h.IsListIter i1 a i ∧ h.IsListIter i2 b i ∧ h.IsListIter i3 c i) where
  mem := by simp
  obj := fun i h st d hd => by
    obtain ⟨hz, hTI, ⟨x, y, u, hTO⟩, ⟨o1, e1, _, d1⟩, ⟨o2, e2, _, d2⟩, ⟨o3, e3, _, d3⟩⟩ := st
    have e' : d = z ∨ d = TI ∨ d = TO ∨ d = i1 ∨ d = i2 ∨ d = i3 := by simpa using hd
    rcases e' with q | q | q | q | q | q <;> subst q
    · exact ⟨_, hz, fun v q => nomatch q⟩
    · exact ⟨_, hTI, fun v q => nomatch q⟩
    · exact ⟨_, hTO, fun v q => nomatch q⟩
    · exact ⟨o1, e1, fun v q => by rw [d1] at q; cases q⟩
    · exact ⟨o2, e2, fun v q => by rw [d2] at q; cases q⟩
    · exact ⟨o3, e3, fun v q => by rw [d3] at q; cases q⟩
  keep := fun i h h' st k => by
    obtain ⟨hz, hTI, ⟨x, y, u, hTO⟩, h1, h2, h3⟩ := st
    exact ⟨k z (by simp) _ hz, k TI (by simp) _ hTI, ⟨x, y, u, k TO (by simp) _ hTO⟩, h1.at fun o q => k i1 (by simp) o q, h2.at fun o q => k i2 (by simp) o q, h3.at fun o q => k i3 (by simp) o q⟩
  item := by
    intro X hP hw hK hc i pins s σ H E I hf st hg
    subst hP hw hK
    obtain ⟨hz, hTI, ⟨x0, y0, u0, hTO⟩, h1, h2, h3⟩ := st
    obtain ⟨xs, ys, us, x, y, u, hqx, hqy, hqu, hx, hy, hu⟩ := hg
    obtain ⟨its, rv, p, _⟩ := I.list hqx
    obtain ⟨its2, rv2, p2, _⟩ := I.list hqy
    obtain ⟨its3, rv3, p3, _⟩ := I.list hqu
    obtain ⟨v1, hv1, ru1⟩ := rv.get hx
    obtain ⟨v2, hv2, ru2⟩ := rv2.get hy
    obtain ⟨v3, hv3, ru3⟩ := rv3.get hu
    have hzl : z < s.heap.objs.size := Heap.lt_size hz
    have na : a ≠ i1 := fun e => by
      obtain ⟨o, q1, q2, q3⟩ := h1
      obtain ⟨o', q1', q2', _⟩ := p.isList
      rw [e, q1] at q1'; cases q1'
      rw [q2] at q2'; exact absurd (Value.type.inj q2') (by decide)
    have nb : b ≠ i2 := fun e => by
      obtain ⟨o, q1, q2, q3⟩ := h2
      obtain ⟨o', q1', q2', _⟩ := p2.isList
      rw [e, q1] at q1'; cases q1'
      rw [q2] at q2'; exact absurd (Value.type.inj q2') (by decide)
    have nc : c ≠ i3 := fun e => by
      obtain ⟨o, q1, q2, q3⟩ := h3
      obtain ⟨o', q1', q2', _⟩ := p3.isList
      rw [e, q1] at q1'; cases q1'
      rw [q2] at q2'; exact absurd (Value.type.inj q2') (by decide)
    have hh : X.A.in1.handled = none := I.ok.hd hc
    have l1 : i < its.toArray.size := by have := (List.getElem?_eq_some_iff.mp hv1).1; simpa using this
    have l2 : i < its2.toArray.size := by have := (List.getElem?_eq_some_iff.mp hv2).1; simpa using this
    have l3 : i < its3.toArray.size := by have := (List.getElem?_eq_some_iff.mp hv3).1; simpa using this
    refine wpAny_pyNext_zipD3_item D (Draws.list hh i1 a na its.toArray) (Draws.list hh i2 b nb its2.toArray) (Draws.list hh i3 c nc its3.toArray) hz hTI hTO ⟨h1, p.isList⟩ ⟨h2, p2.isList⟩ ⟨h3, p3.isList⟩ l1 l2 l3 fun w1 w2 w3 h' tk e1 e2 e3 z' TO' h1' h2' h3' hT hsz hk => ?_
    have e1 : v1 = w1 := by
      have q : its[i]? = some w1 := by simpa using e1
      rw [hv1] at q; injection q
    have e2 : v2 = w2 := by
      have q : its2[i]? = some w2 := by simpa using e2
      rw [hv2] at q; injection q
    have e3 : v3 = w3 := by
      have q : its3[i]? = some w3 := by simpa using e3
      rw [hv3] at q; injection q
    subst e1 e2 e3
    refine ⟨_, rfl, wpAny_letOwnedTupleGo_zip (s := { s with heap := h', toks := tk }) z' fun h'' z'' sb => ?_⟩
    have hT2 : h''.get? s.heap.objs.size = some { cls := .type "tuple", data := .seq #[v1, v2, v3] } := (sb.2 _ (Nat.ne_of_gt hzl)).trans hT
    have new : ObjOk X.prog X.w (upd H s.heap.objs.size (.tup [x, y, u])) h'' s.heap.objs.size (.tup [x, y, u]) :=
      ⟨by show 3 ≤ sizeLine; decide, [v1, v2, v3], .cons ru1 (.cons ru2 (.cons ru3 .nil)), ⟨_, hT2, rfl, _, rfl⟩⟩
    have I1 : Inv X pins σ (upd H s.heap.objs.size (.tup [x, y, u])) { s with heap := h'', toks := tk } :=
      I.turnedNew (ch := [z, TI, TO, i1, i2, i3]) (fun d o hb q => (sb.2 d (fun q' => hb (by simp [q']))).trans (hk d o (fun q' => hb (by simp [q'])) (fun q' => hb (by simp [q'])) (fun q' => hb (by simp [q'])) (fun q' => hb (by simp [q'])) (fun q' => hb (by simp [q'])) q)) hf (Nat.le_refl _) new
    refine ⟨.ref s.heap.objs.size, _, I1, rfl, ⟨_, x, y, u, rfl, I.hok.fresh (Nat.le_refl _), rfl, fun l hl => by rw [I.list_inj hl hqx]; exact hx, fun l hl => by rw [I.list_inj hl hqy]; exact hy, fun l hl => by rw [I.list_inj hl hqu]; exact hu⟩, ⟨z'', ?_, ⟨v1, v2, v3, ?_⟩, ?_, ?_, ?_⟩, fun d hdm => ?_⟩
    · exact (sb.2 _ D.TIz).trans (hk _ _ D.TIz D.TITO D.TIi1 D.TIi2 D.TIi3 hTI)
    · exact (sb.2 _ D.TOz).trans TO'
    · exact h1'.1.at fun o q => (sb.2 _ (Ne.symm D.zi1)).trans q
    · exact h2'.1.at fun o q => (sb.2 _ (Ne.symm D.zi2)).trans q
    · exact h3'.1.at fun o q => (sb.2 _ (Ne.symm D.zi3)).trans q
    · have hlt : d < s.heap.objs.size := by
        have e' : d = z ∨ d = TI ∨ d = TO ∨ d = i1 ∨ d = i2 ∨ d = i3 := by simpa using hdm
        rcases e' with q | q | q | q | q | q <;> subst q
        · exact hzl
        · exact Heap.lt_size hTI
        · exact Heap.lt_size hTO
        · obtain ⟨_, e1, _⟩ := h1; exact Heap.lt_size e1
        · obtain ⟨_, e2, _⟩ := h2; exact Heap.lt_size e2
        · obtain ⟨_, e3, _⟩ := h3; exact Heap.lt_size e3
      rw [upd_ne (Nat.ne_of_lt hlt)]
      exact (hf d hdm).1
  done := by
    intro X hP hw hK hc i pins s σ H E I hf st hg
    subst hP hw hK
    obtain ⟨hz, hTI, ⟨x0, y0, u0, hTO⟩, h1, h2, h3⟩ := st
    obtain ⟨xs, ys, us, hqx, hqy, hqu, k1, k2, k3, hend⟩ := hg
    obtain ⟨its, rv, p, _⟩ := I.list hqx
    obtain ⟨its2, rv2, p2, _⟩ := I.list hqy
    obtain ⟨its3, rv3, p3, _⟩ := I.list hqu
    have na : a ≠ i1 := fun e => by
      obtain ⟨o, q1, q2, q3⟩ := h1
      obtain ⟨o', q1', q2', _⟩ := p.isList
      rw [e, q1] at q1'; cases q1'
      rw [q2] at q2'; exact absurd (Value.type.inj q2') (by decide)
    have nb : b ≠ i2 := fun e => by
      obtain ⟨o, q1, q2, q3⟩ := h2
      obtain ⟨o', q1', q2', _⟩ := p2.isList
      rw [e, q1] at q1'; cases q1'
      rw [q2] at q2'; exact absurd (Value.type.inj q2') (by decide)
    have nc : c ≠ i3 := fun e => by
      obtain ⟨o, q1, q2, q3⟩ := h3
      obtain ⟨o', q1', q2', _⟩ := p3.isList
      rw [e, q1] at q1'; cases q1'
      rw [q2] at q2'; exact absurd (Value.type.inj q2') (by decide)
    have hh : X.A.in1.handled = none := I.ok.hd hc
    have l1 := rv.length
    have l2 := rv2.length
    have l3 := rv3.length
    exact wpAny_pyNext_zipD3_end D (Draws.list hh i1 a na its.toArray) (Draws.list hh i2 b nb its2.toArray) (Draws.list hh i3 c nc its3.toArray) hz hTI hTO ⟨h1, p.isList⟩ ⟨h2, p2.isList⟩ ⟨h3, p3.isList⟩ (by simp; omega) (by simp; omega) (by simp; omega) (by simp; omega)
      fun h' tk hk => ⟨rfl, I.turnedL (ch := [z, TI, TO, i1, i2, i3]) (fun d o hb q =>
        hk d o (fun q' => hb (by simp [q'])) (fun q' => hb (by simp [q'])) (fun q' => hb (by simp [q'])) (fun q' => hb (by simp [q'])) (fun q' => hb (by simp [q'])) q) hf⟩
  self := fun A i s Q E st h => wpAny_pyIter_zip st.1 h
theorem sep_three (N a b c : Nat) (la : a < N) (lb : b < N) (lc : c < N) : ZipSep3 (N + 5) (N + 3) (N + 4) N (N + 1) (N + 2) [N, a] [N + 1, b] [N + 2, c] := by
  have k : ∀ (x y : Nat), x ≠ y → ¬ ((x : Addr) = (y : Addr)) := fun x y h e => h e
  constructor <;> simp <;> exact k _ _ (by omega)
def iThree (K : PySem.W.Frag) (ta : TA) : TI := fun σ H R => ta σ H fun vs H1 => ∃ a b c xs ys zs, vs = [.ref a, .ref b, .ref c] ∧ SqL K H1 a xs ∧ SqL K H1 b ys ∧ SqL K H1 c zs ∧ R (Itz3 K a b c) H1
theorem pi_three {X : Cx} {e e2 e3 : Expr} {ta : TA} {p pos tpos : Pos} {elts : List Expr} {kk : Nat} (hg : Gl X "zip") (hm : X.mg "zip" = none) (ha : PA X [e, e2, e3] ta)
    (hs : starEach [e, e2, e3] X.env = (false, eval e X.env) :: starEach [e2, e3] X.env) (hpl : (backTo pos (starEach [e2, e3] X.env)).any (·.1) = false) :
    PI X (.Tuple elts kk tpos) (.Call (.Name "zip" p) [e, e2, e3] [] pos) (iThree X.K ta) := by
  refine ⟨fun pins s σ H R I h => ?_⟩
  refine PyProof.Rows.Call_ (ld_blt I hg hm PyProof.Rows.boot_zip (PyProof.Rows.callWith_type1 (thn (ha.run pos pins s σ H _ I h) fun us s1 ⟨vs, H1, I1, r1, q1⟩ => ?_) hs hpl))
  obtain ⟨a, b, c, xs, ys, zs, ex, hqx, hqy, hqz, q⟩ := q1
  subst ex
  cases r1 with
  | cons r rr =>
    cases rr with
    | cons r' rr =>
      cases rr with
      | cons r'' rr =>
        cases rr
        cases r
        cases r'
        cases r''
        obtain ⟨its, rv, p1, _⟩ := I1.list hqx
        obtain ⟨its2, rv2, p2, _⟩ := I1.list hqy
        obtain ⟨its3, rv3, p3, _⟩ := I1.list hqz
        have la : a < s1.heap.objs.size := p1.lt
        have lb : b < s1.heap.objs.size := p2.lt
        have lc : c < s1.heap.objs.size := p3.lt
        refine zip_begins3 (begins_list a its.toArray) (begins_list b its2.toArray) (begins_list c its3.toArray) p1.isList p2.isList p3.isList fun h' hz hTI hTO h1 h2 h3 hsz hk => wpAny_pyIter_zip hz ?_
        have I2 : Inv X pins σ H1 { s1 with heap := h' } := I1.kept (t' := s1.toks) hk
        have D := sep_three s1.heap.objs.size a b c la lb lc
        refine ⟨s1.heap.objs.size + 5, [s1.heap.objs.size + 5, s1.heap.objs.size + 3, s1.heap.objs.size + 4, s1.heap.objs.size, s1.heap.objs.size + 1, s1.heap.objs.size + 2], _, _, H1, rfl, I2, turn_three D, ⟨hz, hTI, ⟨_, _, _, hTO⟩, ⟨_, h1, rfl, rfl⟩, ⟨_, h2, rfl, rfl⟩, ⟨_, h3, rfl, rfl⟩⟩, fun d hdm => ?_, q⟩
        have hle : s1.heap.objs.size ≤ d := by
          have e' : d = s1.heap.objs.size + 5 ∨ d = s1.heap.objs.size + 3 ∨ d = s1.heap.objs.size + 4 ∨ d = s1.heap.objs.size ∨ d = s1.heap.objs.size + 1 ∨ d = s1.heap.objs.size + 2 := by simpa using hdm
          rcases e' with e | e | e | e | e | e <;> rw [e] <;> first | exact Nat.le_add_right _ _ | exact Nat.le_refl _
        exact I1.fpOk hle (I1.hok.fresh hle)
end Mp
end

section
set_option Elab.async false
set_option linter.all false
set_option maxRecDepth 100000
set_option maxHeartbeats 400000
set_option autoImplicit false
/-! Mp20: soundness, a walk by its form; targets. -/
namespace Mp
open PySem PySem.Spec L2
theorem pi_weak {X : Cx} {tg e : Expr} {t t' : TI} (h : PI X tg e t) (hh : ∀ σ H R, t' σ H R → t σ H R) : PI X tg e t' := ⟨fun pins s σ H R I q => h.run pins s σ H R I (hh σ H R q)⟩
theorem pi_no {X : Cx} {tg e : Expr} {t : TI} (h : ∀ σ H R, t σ H R → False) : PI X tg e t := ⟨fun pins s σ H R I q => (h σ H R q).elim⟩
section
variable {X : Cx} {Wx : WX} {c : Cfg} {k : Nat} {call : Str → List W → M W} {ev : Slots → Expr → M W} {pos : Pos} {tg : Expr}
/-- a list, a tuple, a str as it comes -/
def iAny (K : PySem.W.Frag) (te : TE) : TI := fun σ H R => te σ H fun v H1 => (∃ a, v = .ref a ∧ (∃ xs, SqL K H1 a xs) ∧ R (Itl K a) H1) ∨ (∃ a, v = .ref a ∧ (∃ xs, SqT K H1 a xs) ∧ R (Itt K a) H1) ∨ ∃ z, v = .str z ∧ R (Its z) H1
theorem pi_any {e : Expr} {te : TE} (he : PE X e te) : PI X tg e (iAny X.K te) := by
  refine ⟨fun pins s σ H R I h => thn (he.run pins s σ H _ I h) fun v s1 q => ?_⟩
  obtain ⟨x, H1, I1, r1, ⟨a, ex, ⟨xs, hq⟩, q⟩ | ⟨a, ex, ⟨xs, hq⟩, q⟩ | ⟨z, ex, q⟩⟩ := q
  · subst ex
    cases r1
    obtain ⟨its, rv, p, hz⟩ := I1.list hq
    exact wpAny_pyIter_list p.isList (pi_one (tk := s1.toks) I1 _ (turn_list a _) ⟨_, Heap.get?_push_size _ rfl, rfl, rfl⟩ q)
  · subst ex
    cases r1
    obtain ⟨its, rv, p, hz⟩ := I1.tuple hq
    exact wpAny_pyIter_tuple (show s1.heap.IsTuple a its.toArray from p) (pi_one (tk := s1.toks) I1 _ (turn_tuple a _) ⟨_, Heap.get?_push_size _ rfl, rfl, rfl⟩ q)
  · subst ex
    obtain ⟨t, rfl⟩ := r1
    cases ha : z.cps.all (· < 128)
    · exact wpAny_pyIter_wide ha (pi_one (tk := s1.toks) I1 _ (turn_str _ z t "str_iterator" (.inr rfl)) ⟨_, Heap.get?_push_size _ rfl, rfl, rfl⟩ q)
    · exact wpAny_pyIter_ascii ha (pi_one (tk := s1.toks) I1 _ (turn_str _ z t "str_ascii_iterator" (.inl rfl)) ⟨_, Heap.get?_push_size _ rfl, rfl, rfl⟩ q)
theorem pi_walk (C : Cok X c Wx k call) (hev : ∀ e, PV X Wx e fun g => ev g e) (e : Expr) : PI X tg e (tI X.K X.mg Wx fun g => walkS (ev g) c tg e) := by
  have gen : walkK c tg e = .gen → PI X tg e (tI X.K X.mg Wx fun g => walkS (ev g) c tg e) := fun h => by
    refine pi_weak (pi_any (hev e)) fun σ H R t => ?_
    obtain ⟨Xx, g, m, S, s, rg, p⟩ := t
    have p : PostW X.K X.mg Xx m S H g σ (bnd (ev g e) walkV S) R (WE Wx σ) := by
      have q := p
      simp only [walkS, h] at q
      exact q
    exact ⟨Xx, g, m, S, s, rg, (PostW.bnd p).mono fun v H1 ⟨x, S1, m1, s1, pv1, r1, p1⟩ => walkV_ok s1 (Rg.mono pv1 rg) r1 p1⟩
  have bad : walkK c tg e = .bad → PI X tg e (tI X.K X.mg Wx fun g => walkS (ev g) c tg e) := fun h => pi_no fun σ H R t => by
    obtain ⟨Xx, g, m, S, s, rg, p⟩ := t
    simp only [walkS, h] at p
    exact p
  cases hk : walkK c tg e with
  | gen => exact gen hk
  | bad => exact bad hk
  | rng a =>
    have q := hk
    unfold walkK at q
    split at q
    · rename_i f fp b bp
      by_cases e1 : f = "range"
      · rw [if_pos e1] at q
        split at q
        · rename_i hc
          injection q with q
          subst q e1
          obtain ⟨hb, hs⟩ := hc
          obtain ⟨h1, h2, h3⟩ := isBlt_ok hb
          refine pi_weak (pi_range1 (C.gl h2) (C.g.blt _ h3) (pa_cons (hev b) pa_nil (star1 hs _)) (star1 hs _)) fun σ H R t => ?_
          obtain ⟨Xx, g, m, S, s, rg, p⟩ := t
          have p : PostW X.K X.mg Xx m S H g σ (bnd (ev g b) rangeM S) R (WE Wx σ) := by
            have q := p
            simp only [walkS, hk] at q
            exact q
          refine ⟨Xx, g, m, S, s, rg, (PostW.bnd p).mono fun v H1 ⟨x, S1, m1, s1, pv1, r1, p1⟩ => ?_⟩
          obtain ⟨j, ej, b1, b2, r⟩ := rangeM_ok s1 (Rg.mono pv1 rg) r1 p1
          exact ⟨j, by rw [ej], b1, b2, r⟩
        · cases q
      · rw [if_neg e1] at q
        split at q
        · split at q <;> cases q
        · cases q
    · split at q
      · split at q <;> cases q
      · split at q
        · split at q <;> cases q
        · cases q
    · split at q
      · split at q <;> cases q
      · cases q
    · cases q
    · cases q
  | enm a =>
    have q := hk
    unfold walkK at q
    split at q
    · rename_i f fp b bp
      by_cases e1 : f = "range"
      · rw [if_pos e1] at q
        split at q <;> cases q
      · rw [if_neg e1] at q
        by_cases e2 : f = "enumerate"
        · rw [if_pos e2] at q
          split at q
          · rename_i hc
            injection q with q
            subst q e2
            obtain ⟨hb, hs, ht⟩ := hc
            obtain ⟨h1, h2, h3⟩ := isBlt_ok hb
            cases tg with
            | Tuple elts kk tpos =>
              refine pi_weak (pi_enum (C.gl h2) (C.g.blt _ h3) (pa_cons (hev b) pa_nil (star1 hs _)) (star1 hs _)) fun σ H R t => ?_
              obtain ⟨Xx, g, m, S, s, rg, p⟩ := t
              have p : PostW X.K X.mg Xx m S H g σ (bnd (ev g b) enumM S) R (WE Wx σ) := by
                have q := p
                simp only [walkS, hk] at q
                exact q
              refine ⟨Xx, g, m, S, s, rg, (PostW.bnd p).mono fun v H1 ⟨x, S1, m1, s1, pv1, r1, p1⟩ => ?_⟩
              obtain ⟨a, xs, ej, b1, r⟩ := enumM_ok s1 (Rg.mono pv1 rg) r1 p1
              exact ⟨a, xs, by rw [ej], b1, r⟩
            | _ => cases ht
          · cases q
        · rw [if_neg e2] at q
          cases q
    · split at q
      · split at q <;> cases q
      · split at q
        · split at q <;> cases q
        · cases q
    · split at q
      · split at q <;> cases q
      · cases q
    · cases q
    · cases q
  | rng2 a b =>
    have q := hk
    unfold walkK at q
    split at q
    · split at q
      · split at q <;> cases q
      · split at q
        · split at q <;> cases q
        · cases q
    · rename_i f fp a' b' bp
      by_cases e1 : f = "range"
      · rw [if_pos e1] at q
        split at q
        · rename_i hc
          injection q with q q'
          subst q q' e1
          obtain ⟨hb, hs, hs2⟩ := hc
          obtain ⟨h1, h2, h3⟩ := isBlt_ok hb
          refine pi_weak (pi_range2 (C.gl h2) (C.g.blt _ h3) (pa_cons (hev a') (pa_cons (hev b') pa_nil (star1 hs2 _)) (not_star hs _ _)) (by rw [not_star hs, star1 hs2]; rfl) (star1 hs2 _)) fun σ H R t => ?_
          obtain ⟨Xx, g, m, S, s, rg, p⟩ := t
          have p : PostW X.K X.mg Xx m S H g σ (bnd (ev g a') (fun x => bnd (ev g b') fun y => range2M x y) S) R (WE Wx σ) := by
            have q := p
            simp only [walkS, hk] at q
            exact q
          refine ⟨Xx, g, m, S, s, rg, (PostW.bnd p).mono fun v H1 ⟨x, S1, m1, s1, pv1, r1, p1⟩ => ⟨Xx, g, m1, S1, s1, Rg.mono pv1 rg, (PostW.bnd p1).mono fun u H2 ⟨y, S2, m2, s2, pv2, r2, p2⟩ => ?_⟩⟩
          obtain ⟨i, j, ei, ej, bb, r⟩ := range2M_ok s2 (Rg.mono pv2 (Rg.mono pv1 rg)) (Rw.mono pv2 _ _ r1) r2 p2
          exact ⟨i, j, by rw [ei, ej], bb, r⟩
        · cases q
      · rw [if_neg e1] at q
        split at q
        · split at q <;> cases q
        · cases q
    · split at q
      · split at q <;> cases q
      · cases q
    · cases q
    · cases q
  | zip a b =>
    have q := hk
    unfold walkK at q
    split at q
    · split at q
      · split at q <;> cases q
      · split at q
        · split at q <;> cases q
        · cases q
    · rename_i f fp a' b' bp
      by_cases e1 : f = "range"
      · rw [if_pos e1] at q
        split at q <;> cases q
      · rw [if_neg e1] at q
        by_cases e2 : f = "zip"
        · rw [if_pos e2] at q
          split at q
          · rename_i hc
            injection q with q q'
            subst q q' e2
            obtain ⟨hb, hs, hs2, ht⟩ := hc
            obtain ⟨h1, h2, h3⟩ := isBlt_ok hb
            cases tg with
            | Tuple elts kk tpos =>
              refine pi_weak (pi_zip (C.gl h2) (C.g.blt _ h3) (pa_cons (hev a') (pa_cons (hev b') pa_nil (star1 hs2 _)) (not_star hs _ _)) (not_star hs _ _) (by rw [star1 hs2]; rfl)) fun σ H R t => ?_
              obtain ⟨Xx, g, m, S, s, rg, p⟩ := t
              have p : PostW X.K X.mg Xx m S H g σ (bnd (ev g a') (fun x => bnd (ev g b') fun y => zipM x y) S) R (WE Wx σ) := by
                have q := p
                simp only [walkS, hk] at q
                exact q
              refine ⟨Xx, g, m, S, s, rg, (PostW.bnd p).mono fun v H1 ⟨x, S1, m1, s1, pv1, r1, p1⟩ => ⟨Xx, g, m1, S1, s1, Rg.mono pv1 rg, (PostW.bnd p1).mono fun u H2 ⟨y, S2, m2, s2, pv2, r2, p2⟩ => ?_⟩⟩
              obtain ⟨i, j, xs, ys, ei, ej, q1, q2, r⟩ := zipM_ok s2 (Rg.mono pv2 (Rg.mono pv1 rg)) (Rw.mono pv2 _ _ r1) r2 p2
              exact ⟨i, j, xs, ys, by rw [ei, ej], q1, q2, r⟩
            | _ => cases ht
          · cases q
        · rw [if_neg e2] at q
          cases q
    · split at q
      · split at q <;> cases q
      · cases q
    · cases q
    · cases q
  | zip3 a b d =>
    have q := hk
    unfold walkK at q
    split at q
    · split at q
      · split at q <;> cases q
      · split at q
        · split at q <;> cases q
        · cases q
    · split at q
      · split at q <;> cases q
      · split at q
        · split at q <;> cases q
        · cases q
    · rename_i f fp a' b' d' bp
      by_cases e2 : f = "zip"
      · rw [if_pos e2] at q
        split at q
        · rename_i hc
          injection q with q q' q''
          subst q q' q'' e2
          obtain ⟨hb, hs, hs2, hs3, ht⟩ := hc
          obtain ⟨h1, h2, h3⟩ := isBlt_ok hb
          cases tg with
          | Tuple elts kk tpos =>
            refine pi_weak (pi_three (C.gl h2) (C.g.blt _ h3) (pa_cons (hev a') (pa_cons (hev b') (pa_cons (hev d') pa_nil (star1 hs3 _)) (not_star hs2 _ _)) (not_star hs _ _)) (not_star hs _ _) (by rw [not_star hs2, star1 hs3]; rfl)) fun σ H R t => ?_
            obtain ⟨Xx, g, m, S, s, rg, p⟩ := t
            have p : PostW X.K X.mg Xx m S H g σ (bnd (ev g a') (fun x => bnd (ev g b') fun y => bnd (ev g d') fun z => zip3M x y z) S) R (WE Wx σ) := by
              have q := p
              simp only [walkS, hk] at q
              exact q
            refine ⟨Xx, g, m, S, s, rg, (PostW.bnd p).mono fun v H1 ⟨x, S1, m1, s1, pv1, r1, p1⟩ => ⟨Xx, g, m1, S1, s1, Rg.mono pv1 rg, (PostW.bnd p1).mono fun u H2 ⟨y, S2, m2, s2, pv2, r2, p2⟩ =>
              ⟨Xx, g, m2, S2, s2, Rg.mono pv2 (Rg.mono pv1 rg), (PostW.bnd p2).mono fun t H3 ⟨z, S3, m3, s3, pv3, r3, p3⟩ => ?_⟩⟩⟩
            obtain ⟨i, j, l, xs, ys, zs, ei, ej, el, q1, q2, q3, r⟩ := zip3M_ok s3 (Rg.mono pv3 (Rg.mono pv2 (Rg.mono pv1 rg))) (Rw.mono pv3 _ _ (Rw.mono pv2 _ _ r1)) (Rw.mono pv3 _ _ r2) r3 p3
            exact ⟨i, j, l, xs, ys, zs, by rw [ei, ej, el], q1, q2, q3, r⟩
          | _ => cases ht
        · cases q
      · rw [if_neg e2] at q
        cases q
    · cases q
    · cases q
theorem not_folded (C : Cok X c Wx k call) {e : Expr} (h : isSet e = false) : ∀ x, foldedSetIterable e X.env x = pure x := by
  intro x
  cases e <;> first | rfl | cases h
end
end Mp
end

section
set_option Elab.async false
set_option linter.all false
set_option maxRecDepth 100000
set_option maxHeartbeats 400000
set_option autoImplicit false
/-! Mp21: soundness, targets; a list under construction. -/
namespace Mp
open PySem PySem.Spec L2
/-! ### targets -/
/-- only names of the configuration's own were stored -/
def Agree (c : Cfg) (σ σ' : St) : Prop := ∀ vs : List Nat, (∀ (x : Str) (i : Nat), storeAt c x = some i → i ∈ vs) → wipe σ' vs = wipe σ vs
theorem wipe_set {σ : St} {i : Nat} {x : Option V} : ∀ {vs : List Nat}, i ∈ vs → wipe (σ.set i x) vs = wipe σ vs
  | v :: vs, h => by
    unfold wipe
    by_cases e : i = v
    · subst e
      by_cases h2 : i ∈ vs
      · rw [wipe_set h2]
      · have key : ∀ (vs : List Nat) (σ : St), i ∉ vs → wipe (σ.set i x) vs = (wipe σ vs).set i x := fun vs => by
          induction vs with
          | nil => intro σ _; rfl
          | cons u us ih =>
            intro σ hn
            unfold wipe
            have n1 : i ≠ u := fun e => hn (by rw [e]; simp)
            rw [ih σ fun hm => hn (List.mem_cons_of_mem _ hm), List.set_comm _ _ n1]
        rw [key vs σ h2, List.set_set]
    · have h2 : i ∈ vs := by
        rcases List.mem_cons.mp h with h | h
        · exact absurd h e
        · exact h
      rw [wipe_set h2]
theorem Agree.refl {c : Cfg} {σ : St} : Agree c σ σ := fun _ _ => rfl
theorem Agree.set {c : Cfg} {σ σ' : St} (a : Agree c σ σ') {x : Str} {i : Nat} {v : Option V} (e : storeAt c x = some i) : Agree c σ (σ'.set i v) := fun vs h => by
  rw [wipe_set (h x i e), a vs h]
theorem Agree.trans {c : Cfg} {σ σ' σ2 : St} (a : Agree c σ σ') (b : Agree c σ' σ2) : Agree c σ σ2 := fun vs h => (b vs h).trans (a vs h)
def tG (K : PySem.W.Frag) (c : Cfg) (f : W → Slots → M Slots) : TG := fun v σ H Q => ∃ Xx g m S w g', Sim K Xx m S H ∧ Rg K Xx m S H g σ ∧ Rw K Xx m S H w v ∧ f w g S = .ok g' S ∧ ∀ σ', Rg K Xx m S H g' σ' → Agree c σ σ' → Q σ' H
def tGs (K : PySem.W.Frag) (c : Cfg) (es : List Expr) : TGs := fun vs σ H Q => ∃ Xx g m S ws g', Sim K Xx m S H ∧ Rg K Xx m S H g σ ∧ Rws K Xx m S H ws vs ∧ asgNames c es ws g S = .ok g' S ∧ ∀ σ', Rg K Xx m S H g' σ' → Agree c σ σ' → Q σ' H
theorem pg_weak {X : Cx} {e : Expr} {t t' : TG} (h : PG X e t) (hh : ∀ v σ H Q, t' v σ H Q → t v σ H Q) : PG X e t' := ⟨fun pins s σ H v u Q I r q => h.run pins s σ H v u Q I r (hh v σ H Q q)⟩
theorem pg_no {X : Cx} {e : Expr} {t : TG} (h : ∀ v σ H Q, t v σ H Q → False) : PG X e t := ⟨fun pins s σ H v u Q I r q => (h v σ H Q q).elim⟩
theorem pgs_weak {X : Cx} {e : List Expr} {t t' : TGs} (h : PGs X e t) (hh : ∀ v σ H Q, t' v σ H Q → t v σ H Q) : PGs X e t' := ⟨fun pins s σ H v u Q I r q => h.run pins s σ H v u Q I r (hh v σ H Q q)⟩
section
variable {X : Cx} {Wx : WX} {c : Cfg} {k : Nat} {call : Str → List W → M W} {pos : Pos}
theorem storeAt_ok (C : Cok X c Wx k call) {x : Str} {i : Nat} (h : storeAt c x = some i) : X.N[i]? = some x ∧ Loc X.env.scope x ∧ (X.fn x = true ∨ X.env.scope.names.lookup x = some .local) := by
  unfold storeAt at h
  split at h
  · rename_i e
    rcases C.sc x _ e with q | ⟨q, _⟩
    · exact ⟨by rw [C.N]; exact idx_ok h, .inl q, .inr q⟩
    · cases q
  · rename_i e
    rcases C.sc x _ e with q | ⟨q, _⟩
    · exact ⟨by rw [C.N]; exact idx_ok h, .inr q, .inl (C.cel x e)⟩
    · cases q
  · cases h
theorem asg_name {x : Str} {p : Pos} {w : W} {g : Slots} {S : Store} : asg c (.Name x p) w g S = (match storeAt c x with
  | some i => ret (g.set i (some w))
  | none => halt : M Slots) S := rfl
theorem asg_tup {es : List Expr} {j : Nat} {p : Pos} {w : W} {g : Slots} {S : Store} : asg c (.Tuple es j p) w g S = (match seqOf S w with
  | some (false, ws) => if es.length = ws.length then asgNames c es ws g S else .stuck
  | _ => .stuck) := rfl
theorem pg_nameW (C : Cok X c Wx k call) (x : Str) (p : Pos) : PG X (.Name x p) (tG X.K c fun w g => asg c (.Name x p) w g) := by
  cases e : storeAt c x with
  | none =>
    refine pg_no fun v σ H Q t => ?_
    obtain ⟨Xx, g, m, S, w, g', s, rg, rw', ea, _⟩ := t
    have ea := asg_name.symm.trans ea
    rw [e] at ea
    cases ea
  | some i =>
    obtain ⟨h1, h2, h3⟩ := storeAt_ok C e
    refine pg_weak (pg_name C.nd h1 h2 h3) fun v σ H Q t => ?_
    obtain ⟨Xx, g, m, S, w, g', s, rg, rw', ea, q⟩ := t
    have ea := asg_name.symm.trans ea
    rw [e] at ea
    cases ea
    exact q _ (rg.set rw' i) (Agree.refl.set e)
def isNm : Expr → Bool
  | .Name _ _ => true
  | _ => false
theorem asgNames_nm : ∀ {es : List Expr} {ws : List W} {g g' : Slots} {S : Store}, asgNames c es ws g S = .ok g' S → es.all isNm = true
  | [], _, _, _, _, _ => rfl
  | e :: es, [], g, g', S, h => by cases e <;> cases h
  | e :: es, w :: ws, g, g', S, h => by
    cases e with
    | Name x p =>
      unfold asgNames at h
      cases e1 : storeAt c x with
      | none => rw [e1] at h; cases h
      | some i => rw [e1] at h; rw [List.all_cons, asgNames_nm h]; rfl
    | _ => cases h
theorem asgNames_len : ∀ {es : List Expr} {ws : List W} {g g' : Slots} {S : Store}, asgNames c es ws g S = .ok g' S → ws.length = es.length
  | [], [], _, _, _, _ => rfl
  | [], _ :: _, _, _, _, h => by cases h
  | e :: es, [], g, g', S, h => by cases e <;> cases h
  | e :: es, w :: ws, g, g', S, h => by
    cases e with
    | Name x p =>
      unfold asgNames at h
      cases e1 : storeAt c x with
      | none => rw [e1] at h; cases h
      | some i => rw [e1] at h; rw [List.length_cons, List.length_cons, asgNames_len h]
    | _ => cases h
theorem pgs_names (C : Cok X c Wx k call) : ∀ (es : List Expr), es.all isNm = true → PGs X es (tGs X.K c es)
  | [], _ => pgs_weak pgs_nil fun vs σ H Q t => by
    obtain ⟨Xx, g, m, S, ws, g', s, rg, rws, ea, q⟩ := t
    have := asgNames_len ea
    cases ws with
    | nil =>
      cases rws
      cases ea
      exact ⟨rfl, q σ rg Agree.refl⟩
    | cons _ _ => cases this
  | e :: es, h => by
    rw [List.all_cons, Bool.and_eq_true] at h
    cases e with
    | Name x p =>
      refine pgs_weak (pgs_cons (pg_nameW C x p) (pgs_names C es h.2)) fun vs σ H Q t => ?_
      obtain ⟨Xx, g, m, S, ws, g', s, rg, rws, ea, q⟩ := t
      have hl := asgNames_len ea
      cases ws with
      | nil => cases hl
      | cons w ws =>
        cases rws with
        | @cons _ v _ vs r1 r2 =>
          unfold asgNames at ea
          cases e1 : storeAt c x with
          | none => rw [e1] at ea; cases ea
          | some i =>
            rw [e1] at ea
            dsimp only at ea
            refine ⟨v, vs, rfl, Xx, g, m, S, w, g.set i (some w), s, rg, r1, asg_name.trans (by rw [e1]; rfl), fun σ' rg' ag => ?_⟩
            exact ⟨Xx, _, m, S, ws, g', s, rg', r2, ea, fun σ2 rg2 ag2 => q σ2 rg2 (ag.trans ag2)⟩
    | _ => exact Bool.noConfusion h.1
theorem names_each : ∀ {es : List Expr}, es.all isNm = true → ∀ (env : Env), (assignEach es env).length = es.length ∧ (assignEach es env).findIdx? (·.1) = none
  | [], _, _ => ⟨rfl, rfl⟩
  | e :: es, h, env => by
    rw [List.all_cons, Bool.and_eq_true] at h
    obtain ⟨h1, h2⟩ := names_each h.2 env
    cases e with
    | Name x p =>
      refine ⟨by show (assignEach es env).length + 1 = _; rw [h1]; rfl, ?_⟩
      show ((false, _) :: assignEach es env).findIdx? (·.1) = none
      rw [List.findIdx?_cons, h2]
      rfl
    | _ => exact Bool.noConfusion h.1
theorem pg_asg (C : Cok X c Wx k call) (tg : Expr) : PG X tg (tG X.K c fun w g => asg c tg w g) := by
  cases tg with
  | Name x p => exact pg_nameW C x p
  | Tuple es j p =>
    cases hn : es.all isNm with
    | false =>
      refine pg_no fun v σ H Q t => ?_
      obtain ⟨Xx, g, m, S, w, g', s, rg, rw', ea, q⟩ := t
      have ea := asg_tup.symm.trans ea
      split at ea
      · split at ea
        · have := asgNames_nm ea
          rw [hn] at this
          cases this
        · cases ea
      · cases ea
    | true =>
      obtain ⟨n1, n2⟩ := names_each hn X.env
      refine pg_weak (pg_tup C.calm (pgs_names C es hn) n1 n2) fun v σ H Q t => ?_
      obtain ⟨Xx, g, m, S, w, g', s, rg, rw', ea, q⟩ := t
      have ea := asg_tup.symm.trans ea
      split at ea
      · rename_i ws e
        split at ea
        · rename_i hl
          obtain ⟨a, vs, ev, h1, h2, rs⟩ := seqOf_ok s rw' e
          exact ⟨a, vs, ev, h2 rfl, by rw [hl, rws_len rs], Xx, g, m, S, ws, g', s, rg, rs, ea, q⟩
        · cases ea
      · cases ea
  | _ =>
    refine pg_no fun v σ H Q t => ?_
    obtain ⟨Xx, g, m, S, w, g', s, rg, rw', ea, q⟩ := t
    cases ea
theorem asgNames_same : ∀ {es : List Expr} {ws : List W} {g : Slots} {S : Store}, (∃ g', asgNames c es ws g S = .ok g' S) ∨ asgNames c es ws g S = .stuck
  | [], [], g, S => .inl ⟨g, rfl⟩
  | [], _ :: _, g, S => .inr rfl
  | e :: es, [], g, S => by cases e <;> exact .inr rfl
  | e :: es, w :: ws, g, S => by
    cases e with
    | Name x p =>
      unfold asgNames
      cases storeAt c x with
      | some i => exact asgNames_same
      | none => exact .inr rfl
    | _ => exact .inr rfl
theorem asg_same {tg : Expr} {w : W} {g : Slots} {S : Store} : (∃ g', asg c tg w g S = .ok g' S) ∨ asg c tg w g S = .stuck := by
  cases tg with
  | Name x p =>
    rw [asg_name]
    cases storeAt c x with
    | some i => exact .inl ⟨_, rfl⟩
    | none => exact .inr rfl
  | Tuple es j p =>
    rw [asg_tup]
    split
    · split
      · exact asgNames_same
      · exact .inr rfl
    · exact .inr rfl
  | _ => exact .inr rfl
end
/-! ### a list under construction -/
section
variable {K : PySem.W.Frag} {Xx Xx' Dd : Addr → Prop} {m m' : List Addr} {S S' : Store} {H H' : Hp} {D : Addr} {J : It} {ws : List W}
theorem Px.sub (h : ∀ a, Xx' a → Xx a) : Px Xx m S H Xx' m S H := ⟨fun _ _ e => e, fun a u n e => ⟨e, fun l => n (l.elim .inl fun x => .inr (h a x))⟩⟩
theorem Sim.sub (s : Sim K Xx m S H) (h : ∀ a, Xx' a → Xx a) : Sim K Xx' m S H where
  len := s.len
  inj := s.inj
  ob := fun n o e => let ⟨a, ho, e1, e2, r⟩ := s.ob n o e; ⟨a, ho, e1, e2, (Px.sub h).ro r⟩
  low := s.low
  ext := fun a x => s.ext a (h a x)
/-- laid -/
theorem px_lay {o : HO} (hD : H D = none) (s : Sim K Xx m S H) : Px Xx m S H (fun b => Xx b ∨ b = D) m S (upd H D o) := ⟨fun _ _ e => e, fun a u n e => by
  have ne : a ≠ D := ne_of_none e hD
  refine ⟨by rw [upd_ne ne]; exact e, fun l => ?_⟩
  rcases l with l | l | l
  · exact n (.inl l)
  · exact n (.inr l)
  · exact ne l⟩
theorem sim_lay {o : HO} (hD : H D = none) (s : Sim K Xx m S H) : Sim K (fun b => Xx b ∨ b = D) m S (upd H D o) where
  len := s.len
  inj := s.inj
  ob := fun n ob e => let ⟨a, ho, e1, e2, r⟩ := s.ob n ob e; ⟨a, ho, e1, by rw [upd_ne (ne_of_none e2 hD)]; exact e2, (px_lay hD s).ro r⟩
  low := s.low
  ext := fun a x => by
    rcases x with x | x
    · obtain ⟨⟨u, e⟩, n⟩ := s.ext a x
      exact ⟨⟨u, by rw [upd_ne (ne_of_none e hD)]; exact e⟩, n⟩
    · subst x
      exact ⟨⟨o, upd_same⟩, s.fresh hD⟩
theorem Sta.lay {o : HO} (hD : H D = none) {a : Addr} {vs : List V} (h : Sta K (fun _ => False) m S H a vs) : Sta K (fun b => b = D) m S (upd H D o) a vs := by
  rcases h with ⟨h1, h2, _⟩ | h
  · have ne : a ≠ D := by
      rcases h1 with e | ⟨_, e⟩ <;> exact ne_of_none e hD
    exact .inl ⟨rd_stay h1 fun o e => (upd_ne ne).trans e, h2, ne⟩
  · exact .inr h
theorem StaT.lay {o : HO} (hD : H D = none) {a : Addr} {vs : List V} (h : StaT K (fun _ => False) m S H a vs) : StaT K (fun b => b = D) m S (upd H D o) a vs := by
  rcases h with ⟨h1, h2, _⟩ | h
  · have ne : a ≠ D := by
      rcases h1 with e | ⟨_, e⟩ <;> exact ne_of_none e hD
    exact .inl ⟨rd_stay h1 fun o e => (upd_ne ne).trans e, h2, ne⟩
  · exact .inr h
theorem Good.lay {o : HO} (hD : H D = none) (s : Sim K Xx m S H) (g : Good K (fun _ => False) Xx m S H J ws) : Good K (fun b => b = D) (fun b => Xx b ∨ b = D) m S (upd H D o) J ws := by
  have p := px_lay (o := o) hD s
  cases g with
  | lst h r => exact .lst (h.lay hD) (p.rws r)
  | tup h r => exact .tup (h.lay hD) (p.rws r)
  | rng lo n => exact .rng lo n
  | str x => exact .str x
  | enm h r => exact .enm (h.lay hD) (p.rps r)
  | zip h h2 r r2 => exact .zip (h.lay hD) (h2.lay hD) (p.rps r) (p.rps r2)
  | zp3 h h2 h3 r r2 r3 => exact .zp3 (h.lay hD) (h2.lay hD) (h3.lay hD) (p.rps r) (p.rps r2) (p.rps r3)
theorem GdW.lay {o : HO} {r : Wk} (hD : H D = none) (s : Sim K Xx m S H) (g : GdW K (fun _ => False) Xx m S H J r) : GdW K (fun b => b = D) (fun b => Xx b ∨ b = D) m S (upd H D o) J r := by
  cases r with
  | list ws => exact Good.lay hD s g
  | obj n => exact g
/-- the finished list becomes a live object -/
theorem px_adopt {o : Ob} (s : Sim K (fun b => Xx b ∨ b = D) m S H) : Px (fun b => Xx b ∨ b = D) m S H Xx (m ++ [D]) (S ++ [some o]) H :=
  ⟨fun n a e => by rw [List.getElem?_append_left (List.getElem?_eq_some_iff.mp e).1]; exact e, fun a u n e => ⟨e, fun l => by
    rcases l with l | l
    · rcases live_alloc s.len l with l | l
      · exact n (.inl l)
      · exact n (.inr (.inr l))
    · exact n (.inr (.inl l))⟩⟩
theorem sim_adopt {o : Ob} {ho : HO} (s : Sim K (fun b => Xx b ∨ b = D) m S H) (nX : ¬ Xx D) (eD : H D = some ho) (lo : o.below S.length = true) (r : Ro K (fun b => Xx b ∨ b = D) m S H o ho) : Sim K Xx (m ++ [D]) (S ++ [some o]) H where
  len := by simp [s.len]
  inj := fun i j a oi oj h1 h2 h3 h4 => by
    have hl := s.len
    have nl := (s.ext D (.inr rfl)).2
    have key : ∀ (i : Nat) (oi : Ob), (S ++ [some o])[i]? = some (some oi) → (m ++ [D])[i]? = some a → (S[i]? = some (some oi) ∧ m[i]? = some a) ∨ (i = S.length ∧ a = D) := fun i oi e1 e2 => by
      by_cases q : i < S.length
      · rw [List.getElem?_append_left q] at e1
        rw [List.getElem?_append_left (by rw [hl]; exact q)] at e2
        exact .inl ⟨e1, e2⟩
      · have q1 : i < (S ++ [some o]).length := (List.getElem?_eq_some_iff.mp e1).1
        have q2 : i = S.length := by simp at q1; omega
        subst q2
        rw [← hl] at e2
        simp at e2
        exact .inr ⟨rfl, e2.symm⟩
    rcases key i oi h1 h3 with ⟨e1, f1⟩ | ⟨q1, e1⟩ <;> rcases key j oj h2 h4 with ⟨e2, f2⟩ | ⟨q2, e2⟩
    · exact s.inj i j a oi oj e1 e2 f1 f2
    · subst e2; exact absurd ⟨i, oi, e1, f1⟩ nl
    · subst e1; exact absurd ⟨j, oj, e2, f2⟩ nl
    · omega
  ob := fun n o' e => by
    have px := px_adopt (o := o) s
    by_cases q : n < S.length
    · rw [List.getElem?_append_left q] at e
      obtain ⟨a, hx, e1, e2, r'⟩ := s.ob n o' e
      exact ⟨a, hx, px.pre n a e1, e2, px.ro r'⟩
    · have hl := s.len
      have q1 : n < (S ++ [some o]).length := (List.getElem?_eq_some_iff.mp e).1
      have q2 : n = S.length := by simp at q1; omega
      subst q2
      simp at e
      subst e
      exact ⟨D, ho, by rw [← hl]; simp, eD, px.ro r⟩
  low := fun n o' e => by
    by_cases q : n < S.length
    · rw [List.getElem?_append_left q] at e
      exact s.low n o' e
    · have q1 : n < (S ++ [some o]).length := (List.getElem?_eq_some_iff.mp e).1
      have q2 : n = S.length := by simp at q1; omega
      subst q2
      simp at e
      subst e
      exact lo
  ext := fun a x => by
    obtain ⟨h1, h2⟩ := s.ext a (.inl x)
    refine ⟨h1, fun l => ?_⟩
    rcases live_alloc s.len l with l | l
    · exact h2 l
    · subst l; exact nX x
end
end Mp
end

section
set_option Elab.async false
set_option linter.all false
set_option maxRecDepth 100000
set_option maxHeartbeats 400000
set_option autoImplicit false
/-! Mp22: soundness, comprehensions. -/
namespace Mp
open PySem PySem.Spec L2
abbrev W0 : WX := fun _ _ _ _ => False
section
variable {X : Cx} {Wx : WX} {c : Cfg} {k : Nat} {call : Str → List W → M W} {pos : Pos}
def rel1 (env : Env) (p : Str × NameKind) : Str × NameKind := if (p.2 == NameKind.free && env.scope.kind == .function && env.kindOf p.1 == some .cell) then (p.1, NameKind.cell) else (p.1, p.2)
theorem rel1_lookup (env : Env) (x : Str) (kd : NameKind) : ∀ (l : List (Str × NameKind)), l.lookup x = some kd → (l.map (rel1 env)).lookup x = some kd ∨ (kd = .free ∧ (l.map (rel1 env)).lookup x = some .cell)
  | [], h => by cases h
  | (n, kk) :: r, h => by
    have ih := rel1_lookup env x kd r
    rw [List.map_cons]
    have e1 : (rel1 env (n, kk)).1 = n := by unfold rel1; split <;> rfl
    have e2 : rel1 env (n, kk) = (n, (rel1 env (n, kk)).2) := Prod.ext e1 rfl
    rw [e2, List.lookup_cons]
    rw [List.lookup_cons] at h
    cases hx : x == n with
    | true =>
      rw [hx] at h
      dsimp only at h ⊢
      have hk : kk = kd := Option.some.inj h
      subst hk
      by_cases hc : (kk == NameKind.free && env.scope.kind == .function && env.kindOf n == some .cell) = true
      · right
        have hf : kk = .free := by
          simp only [Bool.and_eq_true, beq_iff_eq] at hc
          exact hc.1.1
        refine ⟨hf, ?_⟩
        unfold rel1
        dsimp only
        rw [if_pos hc]
      · left
        unfold rel1
        dsimp only
        rw [if_neg hc]
    | false =>
      rw [hx] at h
      exact ih h
theorem relabel_lookup (env : Env) (x : Str) (kd : NameKind) (scope : Scope) (h : scope.names.lookup x = some kd) : (relabel scope env).names.lookup x = some kd ∨ (kd = .free ∧ (relabel scope env).names.lookup x = some .cell) := by
  have e : (relabel scope env).names = scope.names.map (rel1 env) := by
    unfold relabel
    dsimp only
    congr 1
  rw [e]
  exact rel1_lookup env x kd scope.names h
theorem Cok.blk (C : Cok X c Wx k call) (s : Shared) (H : Hp) (scope : Scope) (D : Addr) (cl : List (Str × Addr)) (fp : List Addr) : Cok (X.blk s H scope (compEnvC scope cl D X.env) fp) { c with sc := scope } W0 k call where
  N := C.N
  sc := fun x kd h => relabel_lookup X.env x kd scope h
  nd := C.nd
  calm := C.calm
  room := C.room
  grd := C.grd
  pass := fun σ pins H s e s' I cx => by
    obtain ⟨_, _, _, _, _, _, _, _, _, _, _, _, h⟩ := cx
    exact h.elim
  cel := fun x h => by
    show (scope.names.lookup x == some .cell) = true
    have h : scope.names.lookup x = some .cell := h
    rw [h]
    rfl
  g := C.g
theorem wipeW_ok {K : PySem.W.Frag} {Xx : Addr → Prop} {m : List Addr} {S : Store} {H : Hp} {g : Slots} {σ : St} (r : Rg K Xx m S H g σ) : ∀ vs : List Nat, Rg K Xx m S H (wipeW g vs) (wipe σ vs)
  | [] => r
  | v :: vs => by
    have q := wipeW_ok r vs
    unfold wipeW wipe
    refine ⟨by simp [q.len], fun i w h => ?_⟩
    by_cases e : v = i
    · subst e
      have hl : v < (wipeW g vs).length := by
        have := (List.getElem?_eq_some_iff.mp h).1
        simpa using this
      rw [List.getElem?_set_self hl] at h
      cases h
    · rw [List.getElem?_set_ne e] at h
      obtain ⟨x, e1, e2⟩ := q.at_ i w h
      exact ⟨x, by rw [List.getElem?_set_ne e]; exact e1, e2⟩
theorem set_wipe {σ : St} {u : Nat} : ∀ {vs : List Nat}, u ∈ vs → (wipe σ vs).set u none = wipe σ vs
  | v :: vs, h => by
    unfold wipe
    by_cases e : u = v
    · subst e; rw [List.set_set]
    · have h2 : u ∈ vs := by
        rcases List.mem_cons.mp h with h | h
        · exact absurd h e
        · exact h
      rw [List.set_comm _ _ (Ne.symm e), set_wipe h2]
theorem wipe_wipe {σ : St} {vs : List Nat} : wipe (wipe σ vs) vs = wipe σ vs := by
  have key : ∀ us : List Nat, (∀ i ∈ us, i ∈ vs) → wipe (wipe σ vs) us = wipe σ vs := fun us => by
    induction us with
    | nil => intro _; rfl
    | cons u us ih =>
      intro h
      show (wipe (wipe σ vs) us).set u none = wipe σ vs
      rw [ih fun i hi => h i (List.mem_cons_of_mem _ hi), set_wipe (h u List.mem_cons_self)]
  exact key vs fun i h => h
theorem own_mem {N : List Str} {sc : Scope} {c : Cfg} (hN : c.N = N) (hs : c.sc = sc) {x : Str} {i : Nat} (h : storeAt c x = some i) : i ∈ (ownOf N sc).map (·.2) := by
  unfold storeAt at h
  rw [hN, hs] at h
  rw [List.mem_map]
  refine ⟨(x, i), ?_, rfl⟩
  unfold ownOf
  rw [List.mem_filterMap]
  split at h
  · rename_i e
    refine ⟨(x, .local), PySem.mem_of_lookup e, ?_⟩
    dsimp only
    rw [h]; rfl
  · rename_i e
    refine ⟨(x, .cell), PySem.mem_of_lookup e, ?_⟩
    dsimp only
    rw [h]; rfl
  · cases h
/-- the steps of one turn, none of them raising -/
theorem Post.within {α β γ δ : Type} {K : PySem.W.Frag} {mg : Str → Option Value} {Xx XD : Addr → Prop} {RR : List Addr → Store → Hp → γ → δ → Prop} {R : List Addr → Store → Hp → α → β → Prop} {m0 m : List Addr} {S0 S : Store} {H0 H : Hp} {f : M α} {kk : α → M γ} {Q : δ → Hp → Prop} {E E' : XK}
    (p : Post K mg Xx RR m0 S0 H0 (Mp.bnd (noX f) kk S) Q E) : Post K mg XD R m S H (f S) (fun y H' => ∃ a S' m', Sim K XD m' S' H' ∧ Pv m S H m' S' H' ∧ R m' S' H' a y ∧ Post K mg Xx RR m0 S0 H0 (kk a S') Q E) E' := by
  unfold Mp.bnd noX at p
  cases e : f S with
  | ok a S1 =>
    rw [e] at p
    exact fun y H1 m1 s pv r => ⟨a, S1, m1, s, pv, r, p⟩
  | exc x S' => rw [e] at p; exact p.elim
  | stuck => rw [e] at p; exact p.elim
def ifsT (K : PySem.W.Frag) (mg : Str → Option Value) (ts : Slots → Expr → M Bool) : List Expr → TT
  | [] => tYes
  | [t] => tT K mg W0 fun g => ts g t
  | _ => fun _ _ _ => False
theorem pts_ifs {X : Cx} {ts : Slots → Expr → M Bool} (h : ∀ e, PB X W0 e fun g => ts g e) : ∀ ifs, PTs X ifs (ifsT X.K X.mg ts ifs)
  | [] => pts_nil
  | [t] => pts_one (h t)
  | _ :: _ :: _ => ⟨fun pins s σ H Q I hw => (show False from hw).elim⟩
/-- the end of a comprehension -/
theorem comp_end {K : PySem.W.Frag} {mg : Str → Option Value} {Xx : Addr → Prop} {mB m : List Addr} {SB S : Store} {HB H : Hp} {live : Bool} {accW : List W} {accV : List V} {D : Addr} {Q : VK} {E : XK}
    (sB : Sim K Xx mB SB HB) (nD : ∀ o, ¬ Live mB SB D → HB D ≠ some o) (s : Sim K (fun b => Xx b ∨ b = D) m S H) (pv : Pv mB SB HB m S H) (eD : H D = some (.lst accV)) (r : Rws K (fun b => Xx b ∨ b = D) m S H accW accV)
    (p : Post K mg Xx (Rw K Xx) mB SB HB (newList live accW S) Q E) : Q (.ref D) H := by
  have nX : ¬ Xx D := fun x => by
    obtain ⟨⟨o, eo⟩, nl⟩ := sB.ext D x
    exact nD o nl eo
  cases live with
  | true =>
    unfold newList alloc at p
    dsimp only at p
    split at p
    · rename_i hb
      refine p (.ref D) H (m ++ [D]) (sim_adopt s nX eD hb (.lst r)) ⟨fun n a e => ?_, fun a o nl eo => ?_⟩ ⟨D, by rw [← s.len]; simp, rfl⟩
      · have := pv.pre n a e
        rw [List.getElem?_append_left (List.getElem?_eq_some_iff.mp this).1]; exact this
      · obtain ⟨h1, h2⟩ := pv.stay a o nl eo
        refine ⟨h1, fun l => ?_⟩
        rcases live_alloc s.len l with l | l
        · exact h2 l
        · subst l
          exact nD o nl eo
    · exact p.elim
  | false =>
    unfold newList at p
    dsimp only at p
    cases e2 : allDat accW with
    | none => rw [e2] at p; exact p.elim
    | some ds =>
      rw [e2] at p
      refine p (.ref D) H m (s.sub fun a x => .inl x) pv ?_
      show Rp _ _ _ _
      unfold Rp
      refine ⟨D, accV, rfl, .inl eD, fun l => ?_, ?_⟩
      · rcases l with l | l
        · exact (s.ext D (.inr rfl)).2 l
        · exact nX l
      · exact (Px.sub (fun a x => Or.inl x)).rps (allDat_ok e2 r)
/-- what is so at each turn -/
def CInv (K : PySem.W.Frag) (mg : Str → Option Value) (Xx : Addr → Prop) (mB : List Addr) (SB : Store) (HB : Hp) (J : It) (r : Wk) (D : Addr) (g0 : Slots) (σ0 : St) (rest : Nat → Nat → List W → M W) (Q : VK) (E : XK) (i n : Nat) (H : Hp) : Prop :=
  LeW r i ∧ i + n = walkFuel ∧ ∃ m S accW accV, Sim K (fun b => Xx b ∨ b = D) m S H ∧ H D = some (.lst accV) ∧ accV.length ≤ i ∧ Rws K (fun b => Xx b ∨ b = D) m S H accW accV ∧ Rg K (fun b => Xx b ∨ b = D) m S H g0 σ0 ∧
    GdW K (fun b => b = D) (fun b => Xx b ∨ b = D) m S H J r ∧ Pv mB SB HB m S H ∧ Post K mg Xx (Rw K Xx) mB SB HB (rest n i accW S) Q E
theorem comp_in {o : Orc} {elt tg it : Expr} {ifs : List Expr} {scope : Scope} {pos : Pos} (hb : blkC c.N c.sc scope (ownOf c.N scope) = true) {σ : St} {H : Hp} {Q : VK} (t : tE X.K X.mg Wx (fun g => comp o c g elt tg it ifs scope pos) σ H Q) :
    tLc (tI X.K X.mg Wx fun g => walkS (o.ev c g) c tg it) (tG X.K { c with sc := scope } fun w g => asg { c with sc := scope } tg w g) (ifsT X.K X.mg (fun g e => o.tst { c with sc := scope } g e) ifs) (tE X.K X.mg W0 fun g => o.ev { c with sc := scope } g elt) ((ownOf c.N scope).map (·.2)) σ H Q := by
  obtain ⟨Xx, g, mB, SB, sB, rg, p⟩ := t
  refine ⟨Xx, g, mB, SB, sB, rg, ?_⟩
  simp only [comp, hb] at p
  generalize hts : ifsM (fun g e => o.tst { c with sc := scope } g e) ifs = ts at p
  generalize hel : (fun g => o.ev { c with sc := scope } g elt) = el at p
  generalize has : (fun w => asg { c with sc := scope } tg w (wipeW g ((ownOf c.N scope).map (·.2)))) = as at p
  -- the walk's result
  have key : ∀ (r : Res Wk), walkS (o.ev c g) c tg it SB = r → PostW X.K X.mg Xx mB SB H g σ r (fun J H1 => ∀ D, H1 D = none → ∃ W : Nat → Nat → Hp → Prop, (∃ m, W 0 m (upd H1 D (.lst []))) ∧ ∀ i m H, W i m H →
      (J.stop i H ∧ Q (.ref D) H) ∨ (J.go i H ∧ ∃ Nx : Hp → Prop, (∀ H', Nx H' → ∃ m', m' < m ∧ W (i + 1) m' H') ∧ ∀ x H', J.yld i H x H' → tG X.K { c with sc := scope } (fun w g => asg { c with sc := scope } tg w g) x (wipe σ ((ownOf c.N scope).map (·.2))) H' fun σ2 H2 =>
        wipe σ2 ((ownOf c.N scope).map (·.2)) = wipe σ ((ownOf c.N scope).map (·.2)) ∧ ifsT X.K X.mg (fun g e => o.tst { c with sc := scope } g e) ifs σ2 H2 fun b H3 =>
          if b = true then tE X.K X.mg W0 (fun g => o.ev { c with sc := scope } g elt) σ2 H3 fun y H4 => ∃ acc, H4 D = some (.lst acc) ∧ acc.length < sizeLine ∧ Nx (upd H4 D (.lst (acc ++ [y]))) else Nx H3)) (WE Wx σ) := by
    intro r er
    cases r with
    | stuck => simp only [Mp.bnd, er] at p; exact p
    | exc x S' => simp only [Mp.bnd, er] at p; exact p
    | ok a S1 =>
      have p : Post X.K X.mg Xx (Rw X.K Xx) mB SB H (Mp.bnd (compW ts el as a walkFuel 0 []) (fun acc => newList (c.isLive pos) acc) S1) Q (WE Wx σ) := by
        have q := p
        simp only [Mp.bnd, er] at q ⊢
        exact q
      intro m1 H1 J s1 rg1 gd1 pv1 D hD
      have nD : ∀ ob, ¬ Live mB SB D → H D ≠ some ob := fun ob l e => by
        have := (pv1.stay D ob l e).1
        rw [hD] at this
        cases this
      refine ⟨fun i n H' => CInv X.K X.mg Xx mB SB H J a D (wipeW g ((ownOf c.N scope).map (·.2))) (wipe σ ((ownOf c.N scope).map (·.2)))
        (fun n i acc => Mp.bnd (compW ts el as a n i acc) fun acc => newList (c.isLive pos) acc) Q (WE Wx σ) i n H', ⟨walkFuel, ?_⟩, ?_⟩
      · have pl := px_lay (o := .lst []) hD s1
        have le0 : LeW a 0 := by
          cases a with
          | list ws => exact Nat.zero_le _
          | obj n => exact trivial
        exact ⟨le0, Nat.zero_add _, m1, S1, [], [], sim_lay hD s1, upd_same, Nat.zero_le _, .nil, wipeW_ok (pl.rg rg1) _, gd1.lay hD s1, pv1.trans (Pv.new hD s1), p⟩
      · rintro i n H2 ⟨hi, en, m, S, accW, accV, s, eD, hl, rA, rG, gd, pv, pp⟩
        cases n with
        | zero => exact (show False from pp).elim
        | succ n =>
        rcases gd.step s i hi with e | ⟨e, st⟩ | ⟨w, e, hi1, go, step⟩
        · exfalso
          simp only [compW, Mp.bnd, e] at pp
          exact pp
        · left
          refine ⟨st, ?_⟩
          have pp : Post X.K X.mg Xx (Rw X.K Xx) mB SB H (newList (c.isLive pos) accW S) Q (WE Wx σ) := by
            have q := pp
            simp only [compW, Mp.bnd, e] at q
            exact q
          exact comp_end sB nD s pv eD rA pp
        · right
          refine ⟨go, fun H' => CInv X.K X.mg Xx mB SB H J a D (wipeW g ((ownOf c.N scope).map (·.2))) (wipe σ ((ownOf c.N scope).map (·.2)))
            (fun n i acc => Mp.bnd (compW ts el as a n i acc) fun acc => newList (c.isLive pos) acc) Q (WE Wx σ) (i + 1) n H', fun H' h => ⟨n, Nat.lt_succ_self n, h⟩, fun x H3 y => ?_⟩
          obtain ⟨s3, pv3, rx⟩ := step x H3 y
          rcases asg_same (c := { c with sc := scope }) (tg := tg) (w := w) (g := wipeW g ((ownOf c.N scope).map (·.2))) (S := S) with ⟨g', ea⟩ | ea
          · refine ⟨_, _, m, S, _, g', s3, Rg.mono pv3 rG, rx, ea, fun σ2 rg2 ag => ⟨(ag _ fun x i h => own_mem (c := { c with sc := scope }) (N := c.N) (sc := scope) rfl rfl h).trans wipe_wipe, ?_⟩⟩
            have ea' : as w S = .ok g' S := by rw [← has]; exact ea
            have pp2 : Post X.K X.mg Xx (Rw X.K Xx) mB SB H (Mp.bnd (noX (ts g')) (fun b => Mp.bnd (match b with
              | true => Mp.bnd (noX (el g')) fun y => compW ts el as a n (i + 1) (accW ++ [y])
              | false => compW ts el as a n (i + 1) accW) fun acc => newList (c.isLive pos) acc) S) Q (WE Wx σ) := by
              have q := pp
              simp only [compW, Mp.bnd, e, ea'] at q ⊢
              revert q
              generalize noX (ts g') S = rr
              cases rr <;> exact fun q => q
            -- what a turn keeps
            have keep : ∀ (m4 : List Addr) (S4 : Store) (H4 : Hp) (aW : List W) (aV : List V), Sim X.K (fun b => Xx b ∨ b = D) m4 S4 H4 → Pv m S H3 m4 S4 H4 → H4 D = some (.lst aV) → aV.length ≤ i + 1 → Rws X.K (fun b => Xx b ∨ b = D) m4 S4 H4 aW aV →
                Post X.K X.mg Xx (Rw X.K Xx) mB SB H (Mp.bnd (compW ts el as a n (i + 1) aW) (fun acc => newList (c.isLive pos) acc) S4) Q (WE Wx σ) →
                CInv X.K X.mg Xx mB SB H J a D (wipeW g ((ownOf c.N scope).map (·.2))) (wipe σ ((ownOf c.N scope).map (·.2)))
                  (fun n i acc => Mp.bnd (compW ts el as a n i acc) fun acc => newList (c.isLive pos) acc) Q (WE Wx σ) (i + 1) n H4 :=
              fun m4 S4 H4 aW aV s4 pv4 e4 l4 r4 p4 => ⟨hi1, by omega, m4, S4, aW, aV, s4, e4, l4, r4, Rg.mono pv4 (Rg.mono pv3 rG), (gd.mono pv3).mono pv4, (pv.trans pv3).trans pv4, p4⟩
            have nlD : ¬ Live m S D := (s.ext D (.inr rfl)).2
            have eD3 : H3 D = some (.lst accV) := (pv3.stay D _ nlD eD).1
            have nlD3 : ¬ Live m S D := (s3.ext D (.inr rfl)).2
            have small : i < sizeLine := by
              have : walkFuel = 1000000 := rfl
              rw [sizeLine_eq]
              omega
            -- the tests
            have tests : ∀ (Q' : Bool → Hp → Prop), (∀ (b : Bool) (m4 : List Addr) (S4 : Store) (H4 : Hp), Sim X.K (fun b => Xx b ∨ b = D) m4 S4 H4 → Pv m S H3 m4 S4 H4 → Post X.K X.mg Xx (Rw X.K Xx) mB SB H ((fun b => Mp.bnd (match b with
              | true => Mp.bnd (noX (el g')) fun y => compW ts el as a n (i + 1) (accW ++ [y])
              | false => compW ts el as a n (i + 1) accW) fun acc => newList (c.isLive pos) acc) b S4) Q (WE Wx σ) → Q' b H4) →
                ifsT X.K X.mg (fun g e => o.tst { c with sc := scope } g e) ifs σ2 H3 Q' := fun Q' h => by
              match ifs, hts with
              | [], hts => subst hts; exact h true m S H3 s3 Pv.refl pp2
              | [t], hts =>
                subst hts
                exact ⟨_, g', m, S, s3, rg2, (Post.within (R := RB) pp2).mono fun b H4 ⟨b', S4, m4, s4, pv4, r4, p4⟩ => by
                  have r4 : b' = b := r4
                  subst r4
                  exact h b' m4 S4 H4 s4 pv4 p4⟩
              | _ :: _ :: _, hts => subst hts; exact (show False from pp2).elim
            refine tests _ fun b m4 S4 H4 s4 pv4 p4 => ?_
            have eD4 : H4 D = some (.lst accV) := (pv4.stay D _ nlD3 eD3).1
            have nlD4 : ¬ Live m4 S4 D := (s4.ext D (.inr rfl)).2
            have rA4 := Rws.mono pv4 (Rws.mono pv3 rA)
            cases b with
            | false =>
              rw [if_neg (by decide)]
              exact keep m4 S4 H4 accW accV s4 pv4 eD4 (by omega) rA4 p4
            | true =>
              rw [if_pos rfl]
              have p5 : Post X.K X.mg Xx (Rw X.K Xx) mB SB H (Mp.bnd (noX (el g')) (fun y => Mp.bnd (compW ts el as a n (i + 1) (accW ++ [y])) fun acc => newList (c.isLive pos) acc) S4) Q (WE Wx σ) := by
                have q := p4
                simp only [Mp.bnd] at q ⊢
                revert q
                generalize noX (el g') S4 = rr
                cases rr <;> exact fun q => q
              subst hel
              refine ⟨_, g', m4, S4, s4, Rg.mono pv4 rg2, (Post.within (R := Rw X.K _) p5).mono fun y H5 ⟨ya, S5, m5, s5, pv5, r5, p5⟩ => ?_⟩
              have eD5 : H5 D = some (.lst accV) := (pv5.stay D _ nlD4 eD4).1
              have rA5 := Rws.mono pv5 rA4
              refine ⟨accV, eD5, by omega, ?_⟩
              have pw : Px (fun b => Xx b ∨ b = D) m5 S5 H5 (fun b => Xx b ∨ b = D) m5 S5 (upd H5 D (.lst (accV ++ [y]))) := Px.wr (.inr rfl)
              refine ⟨hi1, by omega, m5, S5, accW ++ [ya], accV ++ [y], s5.wr (.inr rfl), upd_same, by rw [List.length_append, List.length_singleton]; omega, pw.rws (rws_append rA5 (.cons r5 .nil)), pw.rg (Rg.mono pv5 (Rg.mono pv4 (Rg.mono pv3 rG))),
                (((gd.mono pv3).mono pv4).mono pv5).wr rfl (.inr rfl), ?_, p5⟩
              have pvv := ((pv.trans pv3).trans pv4).trans pv5
              refine ⟨pvv.pre, fun a u nl e => ?_⟩
              obtain ⟨q1, q2⟩ := pvv.stay a u nl e
              have ne : a ≠ D := fun z => by
                subst z
                exact nD u nl e
              exact ⟨(upd_ne ne).trans q1, q2⟩
          · exfalso
            have ea' : as w S = .stuck := by rw [← has]; exact ea
            simp only [compW, Mp.bnd, e, ea'] at pp
            exact pp
  subst hel
  exact key _ rfl
theorem comp_blk (C : Cok X c Wx k call) {scope : Scope} (hb : blkC c.N c.sc scope (ownOf c.N scope) = true) : BlkOk X.N X.env.scope scope (ownOf c.N scope) := by
  have q := blkOk_by hb
  rw [C.N]
  refine ⟨q.kind, q.uniq, q.ix, fun y hy e => ?_, q.own⟩
  rcases q.free y hy e with z | z
  · rcases C.sc _ _ z with w | ⟨w, _⟩
    · exact .inl w
    · cases w
  · rcases C.sc _ _ z with w | ⟨_, w⟩
    · exact .inr w
    · exact .inl w
theorem comp_set {o : Orc} {elt tg it : Expr} {ifs : List Expr} {scope : Scope} {pos : Pos} (hset : isSet it = true) {σ : St} {H : Hp} {Q : VK} (t : tE X.K X.mg Wx (fun g => comp o c g elt tg it ifs scope pos) σ H Q) : False := by
  obtain ⟨Xx, g, m, S, s, rg, p⟩ := t
  cases it with
  | Set a b d =>
    cases hb : blkC c.N c.sc scope (ownOf c.N scope) with
    | false => simp only [comp, hb] at p; exact p
    | true => simp only [comp, hb] at p; exact p
  | _ => cases hset
theorem comp_nb {o : Orc} {elt tg it : Expr} {ifs : List Expr} {scope : Scope} {pos : Pos} (hb : blkC c.N c.sc scope (ownOf c.N scope) = false) {σ : St} {H : Hp} {Q : VK} (t : tE X.K X.mg Wx (fun g => comp o c g elt tg it ifs scope pos) σ H Q) : False := tX.no (tX.imp t fun g => by simp only [comp, hb])
theorem pv_comp {o : Orc} (ihE : ∀ (X : Cx) (c : Cfg) (Wx : WX), Cok X c Wx k call → ∀ e, PV X Wx e fun g => o.ev c g e) (ihT : ∀ (X : Cx) (c : Cfg) (Wx : WX), Cok X c Wx k call → ∀ e, PB X Wx e fun g => o.tst c g e)
    (C : Cok X c Wx k call) (elt tg it : Expr) (ifs : List Expr) (scope : Scope) (pos : Pos) : PV X Wx (.ListComp elt [⟨tg, it, ifs, 0⟩] scope pos) fun g => comp o c g elt tg it ifs scope pos := by
  cases hb : blkC c.N c.sc scope (ownOf c.N scope) with
  | false => exact pe_no fun σ H Q t => comp_nb hb t
  | true =>
  cases hset : isSet it with
  | true => exact pe_no fun σ H Q t => comp_set hset t
  | false =>
  exact pe_weak (pe_lc C.calm C.nd (pi_walk C (ihE X c Wx C) it) (comp_blk C hb) (g := tG X.K { c with sc := scope } fun w g => asg { c with sc := scope } tg w g) (tt := ifsT X.K X.mg (fun g e => o.tst { c with sc := scope } g e) ifs) (te := tE X.K X.mg W0 fun g => o.ev { c with sc := scope } g elt)
    (fun s H D cl fp => pg_asg (C.blk s H scope D cl fp) tg) (fun s H D cl fp => pts_ifs (ihT _ _ W0 (C.blk s H scope D cl fp)) ifs) (fun s H D cl fp => ihE _ _ W0 (C.blk s H scope D cl fp) elt) (not_folded C hset)) fun σ H Q t => comp_in hb t
/-- name = [..], the name a local of this line -/
theorem ps_comp {o : Orc} (ihE : ∀ (X : Cx) (c : Cfg) (Wx : WX), Cok X c Wx k call → ∀ e, PV X Wx e fun g => o.ev c g e) (ihT : ∀ (X : Cx) (c : Cfg) (Wx : WX), Cok X c Wx k call → ∀ e, PB X Wx e fun g => o.tst c g e)
    (C : Cok X c Wx k call) (elt tg it : Expr) (ifs : List Expr) (scope : Scope) (pos spos py : Pos) (y : Str) {i : Nat} (hi : X.N[i]? = some y) (hk : X.env.scope.kind = .function) (hy : X.env.scope.names.lookup y = some .local) (hl : (py.line == pos.line) = true)
    (ha : (scope.names.any fun (n, k) => n == y && (k == .local || k == .cell)) = false) : PS X (.Assign [.Name y py] (.ListComp elt [⟨tg, it, ifs, 0⟩] scope pos) spos) (tAsg (tE X.K X.mg Wx fun g => comp o c g elt tg it ifs scope pos) (gName i)) := by
  cases hb : blkC c.N c.sc scope (ownOf c.N scope) with
  | false => exact ⟨fun pins s σ H D I t => (comp_nb hb t).elim⟩
  | true =>
  cases hset : isSet it with
  | true => exact ⟨fun pins s σ H D I t => (comp_set hset t).elim⟩
  | false =>
  have base := ps_setLc C.calm C.nd hi hy (sw_true (elt := elt) (gs := [⟨tg, it, ifs, 0⟩]) (l := spos.line) hk hy hl ha) (pi_walk C (ihE X c Wx C) it) (comp_blk C hb) (g := tG X.K { c with sc := scope } fun w g => asg { c with sc := scope } tg w g) (tt := ifsT X.K X.mg (fun g e => o.tst { c with sc := scope } g e) ifs) (te := tE X.K X.mg W0 fun g => o.ev { c with sc := scope } g elt)
    (fun s H D cl fp => pg_asg (C.blk s H scope D cl fp) tg) (fun s H D cl fp => pts_ifs (ihT _ _ W0 (C.blk s H scope D cl fp)) ifs) (fun s H D cl fp => ihE _ _ W0 (C.blk s H scope D cl fp) elt) (not_folded C hset)
  exact ⟨fun pins s σ H D I t => base.run pins s σ H D I (comp_in hb t)⟩
end
end Mp
end

section
set_option Elab.async false
set_option linter.all false
set_option maxRecDepth 100000
set_option maxHeartbeats 400000
set_option autoImplicit false
/-! Mp23: soundness, statements. -/
namespace Mp
open PySem PySem.Spec L2
def PostF (K : PySem.W.Frag) (mg : Str → Option Value) (Wx : WX) (Xx : Addr → Prop) (m : List Addr) (S : Store) (H : Hp) (r : Res Fl) (D : Ends) : Prop := match r with
  | .ok f S' => match f with
    | .nx g => ∀ σ' H' m', Sim K Xx m' S' H' → Pv m S H m' S' H' → Rg K Xx m' S' H' g σ' → D.nx σ' H'
    | .rt w => ∀ v H' m', Sim K Xx m' S' H' → Pv m S H m' S' H' → Rw K Xx m' S' H' w v → D.rt v H'
    | .bk g => ∀ σ' H' m', Sim K Xx m' S' H' → Pv m S H m' S' H' → Rg K Xx m' S' H' g σ' → D.bk σ' H'
    | .ct g => ∀ σ' H' m', Sim K Xx m' S' H' → Pv m S H m' S' H' → Rg K Xx m' S' H' g σ' → D.ct σ' H'
    | .xc x g => ∀ (C : Addr) (d : Option Addr) σ' H' m', Sim K Xx m' S' H' → Pv m S H m' S' H' → Rg K Xx m' S' H' g σ' → mg x.cls = some (.ref C) → x.arg = none → d = none → Wx (.ref C) d σ' H'
  | .exc _ _ => False
  | .stuck => False
def tS (K : PySem.W.Frag) (mg : Str → Option Value) (Wx : WX) (f : Slots → M Fl) : TS := fun D σ H => ∃ Xx g m S, Sim K Xx m S H ∧ Rg K Xx m S H g σ ∧ PostF K mg Wx Xx m S H (f g S) D
section
variable {K : PySem.W.Frag} {mg : Str → Option Value} {Wx : WX} {Xx : Addr → Prop} {m m1 : List Addr} {S S1 : Store} {H H1 : Hp} {g : Slots} {σ : St} {D : Ends} {α β : Type}
theorem PostF.from {r : Res Fl} (p : PostF K mg Wx Xx m S H r D) (pv : Pv m S H m1 S1 H1) : PostF K mg Wx Xx m1 S1 H1 r D := by
  cases r with
  | ok f S' =>
    cases f with
    | nx g => exact fun σ' H' m' s pv' => p σ' H' m' s (pv.trans pv')
    | rt w => exact fun σ' H' m' s pv' => p σ' H' m' s (pv.trans pv')
    | bk g => exact fun σ' H' m' s pv' => p σ' H' m' s (pv.trans pv')
    | ct g => exact fun σ' H' m' s pv' => p σ' H' m' s (pv.trans pv')
    | xc x g => exact fun C d σ' H' m' s pv' => p C d σ' H' m' s (pv.trans pv')
  | exc x S' => exact p
  | stuck => exact p
theorem PostF.bndE {R : List Addr → Store → Hp → α → β → Prop} {f : M α} {k : α → M Fl} (rg : Rg K Xx m S H g σ) (p : PostF K mg Wx Xx m S H (Mp.bndE g f k S) D) :
    Post K mg Xx R m S H (f S) (fun y H1 => ∃ a S1 m1, Sim K Xx m1 S1 H1 ∧ Pv m S H m1 S1 H1 ∧ Rg K Xx m1 S1 H1 g σ ∧ R m1 S1 H1 a y ∧ PostF K mg Wx Xx m1 S1 H1 (k a S1) D) (WE Wx σ) := by
  unfold Mp.bndE at p
  cases e : f S with
  | ok a S1 =>
    rw [e] at p
    exact fun y H1 m1 s pv r => ⟨a, S1, m1, s, pv, Rg.mono pv rg, r, p.from pv⟩
  | exc x S' =>
    rw [e] at p
    exact fun C d H' m' s pv h1 h2 h3 => p C d σ H' m' s pv (Rg.mono pv rg) h1 h2 h3
  | stuck =>
    rw [e] at p
    exact p
/-- a walk, then the rest -/
theorem PostF.walk {f : M Wk} {k : Wk → M Fl} (rg : Rg K Xx m S H g σ) (p : PostF K mg Wx Xx m S H (Mp.bndE g f k S) D) :
    PostW K mg Xx m S H g σ (f S) (fun J H1 => ∃ (m1 : List Addr) (S1 : Store) (a : Wk), Sim K Xx m1 S1 H1 ∧ Rg K Xx m1 S1 H1 g σ ∧ GdW K (fun _ => False) Xx m1 S1 H1 J a ∧ PostF K mg Wx Xx m1 S1 H1 (k a S1) D) (WE Wx σ) := by
  unfold Mp.bndE at p
  cases e : f S with
  | ok a S1 =>
    rw [e] at p
    exact fun m1 H1 J s rg gd pv => ⟨m1, S1, a, s, rg, gd, p.from pv⟩
  | exc x S' =>
    rw [e] at p
    exact fun C d H' m' s pv h1 h2 h3 => p C d σ H' m' s pv (Rg.mono pv rg) h1 h2 h3
  | stuck =>
    rw [e] at p
    exact p
theorem ps_weak {X : Cx} {st : Stmt} {t t' : TS} (h : PS X st t) (hh : ∀ D σ H, t' D σ H → t D σ H) : PS X st t' := ⟨fun pins s σ H D I q => h.run pins s σ H D I (hh D σ H q)⟩
theorem pss_weak {X : Cx} {st : List Stmt} {t t' : TS} (h : PSs X st t) (hh : ∀ D σ H, t' D σ H → t D σ H) : PSs X st t' := ⟨fun pins s σ H D I q => h.run pins s σ H D I (hh D σ H q)⟩
theorem ps_no {X : Cx} {st : Stmt} {t : TS} (h : ∀ D σ H, t D σ H → False) : PS X st t := ⟨fun pins s σ H D I q => (h D σ H q).elim⟩
theorem pss_no {X : Cx} {st : List Stmt} {t : TS} (h : ∀ D σ H, t D σ H → False) : PSs X st t := ⟨fun pins s σ H D I q => (h D σ H q).elim⟩
theorem tS.no {σ : St} {H : Hp} (t : tS K mg Wx (fun _ => halt) D σ H) : False := by
  obtain ⟨Xx, g, m, S, s, rg, p⟩ := t
  exact p
theorem tS.imp {f f' : Slots → M Fl} {σ : St} {H : Hp} (t : tS K mg Wx f D σ H) (h : ∀ g, f g = f' g) : tS K mg Wx f' D σ H := by
  obtain ⟨Xx, g, m, S, s, rg, p⟩ := t
  exact ⟨Xx, g, m, S, s, rg, by rw [← h g]; exact p⟩
end
/-- a def's context -/
structure Sok (X : Cx) (c : Cfg) (Wx : WX) (k : Nat) (call : Str → List W → M W) : Prop extends Cok X c Wx k call where
  stk : X.stack = X.env :: X.outer
  frm : X.env.frame = some X.env.locals
  kind : X.env.scope.kind = .function
  tk : Takes X Wx
  own : PassesOwn (model X.prog X.w) X.A X.env X.xe
theorem Sok.tr {X : Cx} {c : Cfg} {Wx Wx' : WX} {k : Nat} {call : Str → List W → M W} (C : Sok X c Wx k call) (pn : List (Addr × Obj)) (xe : Value → Shared → Prop) (tk : Takes (X.tr pn xe) Wx') (ow : PassesOwn (model X.prog X.w) X.A X.env xe) : Sok (X.tr pn xe) c Wx' k call where
  N := C.N
  sc := C.sc
  nd := C.nd
  calm := C.calm
  room := C.room
  grd := C.grd
  pass := fun σ => passAt tk σ
  cel := C.cel
  g := C.g
  stk := C.stk
  frm := C.frm
  kind := C.kind
  tk := tk
  own := ow
abbrev PF (X : Cx) (Wx : WX) (st : Stmt) (f : Slots → M Fl) : Prop := PS X st (tS X.K X.mg Wx f)
abbrev PFs (X : Cx) (Wx : WX) (st : List Stmt) (f : Slots → M Fl) : Prop := PSs X st (tS X.K X.mg Wx f)
section
variable {X : Cx} {Wx : WX} {c : Cfg} {k : Nat} {call : Str → List W → M W} {pos : Pos} {o : Orc}
theorem sw_no {e : Expr} {tg : Option Expr} {l : Nat} {env : Env} (h : isComp e = false) : swapsWith e tg l env = pure false := by
  cases e <;> first | rfl | cases h
theorem sws_no {e tg : Expr} {l : Nat} {env : Env} (h : isComp e = false) : swapsWithSole [tg] e l env = pure false := sw_no h
theorem ps_exprS (hev : ∀ e, PV X Wx e fun g => o.ev c g e) (e : Expr) : PF X Wx (.Expr e pos) fun g => exprS o c g e := by
  cases hc : isComp e with
  | true => exact ps_no fun D σ H t => tS.no (t.imp fun g => by simp only [exprS, hc])
  | false =>
    refine ps_weak (ps_expr (hev e) (sw_no hc)) fun D σ H t => ?_
    obtain ⟨Xx, g, m, S, s, rg, p⟩ := t
    simp only [exprS, hc] at p
    exact ⟨Xx, g, m, S, s, rg, (PostF.bndE (R := Rw X.K Xx) rg p).mono fun y H1 ⟨a, S1, m1, s1, pv1, rg1, r1, p1⟩ => p1 σ H1 m1 s1 Pv.refl rg1⟩
theorem sw_cell {elt : Expr} {gs : List Comprehension} {scope : Scope} {pos py : Pos} {y : Str} {l : Nat} {env : Env} (hy : env.scope.names.lookup y ≠ some .local) : swapsWith (.ListComp elt gs scope pos) (some (.Name y py)) l env = pure false := by
  have ky : (env.kindOf y == some NameKind.local) = false := by
    show (env.scope.names.lookup y == some NameKind.local) = false
    simpa using hy
  unfold swapsWith
  simp only [ky, Bool.and_false, Bool.false_and]
theorem sp_name {e : Expr} {x : Str} {p : Pos} {env : Env} : swappedStores [.Name x p] e env = pure none := by cases e <;> rfl
theorem sp_tuple {e : Expr} {ts : List Expr} {j : Nat} {p : Pos} {env : Env} (h : noSwap e = true) : swappedStores [.Tuple ts j p] e env = pure none := by cases e <;> first | rfl | cases h
theorem sp_sub {e a b : Expr} {p : Pos} {env : Env} : swappedStores [.Subscript a b p] e env = pure none := by cases e <;> rfl
theorem ps_asgS (C : Sok X c Wx k call) (ihE : ∀ (X : Cx) (c : Cfg) (Wx : WX), Cok X c Wx k call → ∀ e, PV X Wx e fun g => o.ev c g e) (hcomp : ∀ (elt : Expr) (scope : Scope) (pos spos py : Pos) (y : Str) (i : Nat), X.N[i]? = some y → X.env.scope.names.lookup y = some .local → (py.line == pos.line) = true →
      (scope.names.any fun (n, k) => n == y && (k == .local || k == .cell)) = false → ∀ gs, PS X (.Assign [.Name y py] (.ListComp elt gs scope pos) spos) (tAsg (tE X.K X.mg Wx fun g => o.ev c g (.ListComp elt gs scope pos)) (gName i))) (tg e : Expr) :
    PF X Wx (.Assign [tg] e pos) fun g => asgS o c g tg e := by
  have hev := ihE X c Wx C.toCok
  have bad : ∀ (tg : Expr), (∀ g, asgS o c g tg e = halt) → PF X Wx (.Assign [tg] e pos) fun g => asgS o c g tg e := fun tg h => ps_no fun D σ H t => tS.no (t.imp h)
  cases tg with
  | Name x px =>
    cases hi : storeAt c x with
    | none => exact bad _ fun g => by simp only [asgS, hi]
    | some i =>
      cases hl : lcOk c x px e with
      | false => exact bad _ fun g => by simp only [asgS, hi, hl]
      | true =>
        obtain ⟨h1, h2, h3⟩ := storeAt_ok C.toCok hi
        have base : PS X (.Assign [.Name x px] e pos) (tAsg (tE X.K X.mg Wx fun g => o.ev c g e) (gName i)) := by
          cases hc : isComp e with
          | false => exact ps_asg (hev e) (pg_name C.nd h1 h2 h3) (sws_no hc) sp_name rfl
          | true =>
            cases e with
            | ListComp elt gs scope cpos =>
              unfold lcOk at hl
              simp only [Bool.or_eq_true, decide_eq_true_eq, Bool.and_eq_true, Bool.not_eq_true'] at hl
              by_cases hx : X.env.scope.names.lookup x = some .local
              · rcases hl with hl | ⟨hl, ha⟩
                · exfalso
                  unfold storeAt at hi
                  split at hi
                  · exact hl (by assumption)
                  · rename_i q
                    rcases C.sc x _ q with z | ⟨z, _⟩
                    · rw [hx] at z; cases z
                    · cases z
                  · cases hi
                · exact hcomp elt scope cpos pos px x i h1 hx hl ha gs
              · exact ps_asg (hev _) (pg_name C.nd h1 h2 h3) (show swapsWith (.ListComp elt gs scope cpos) (some (.Name x px)) pos.line X.env = pure false from sw_cell hx) sp_name rfl
            | SetComp a b d f => cases hl
            | DictComp a b d f h => cases hl
            | _ => cases hc
        refine ps_weak base fun D σ H t => ?_
        obtain ⟨Xx, g, m, S, s, rg, p⟩ := t
        simp only [asgS, hi, hl] at p
        exact ⟨Xx, g, m, S, s, rg, (PostF.bndE (R := Rw X.K Xx) rg p).mono fun y H1 ⟨a, S1, m1, s1, pv1, rg1, r1, p1⟩ => p1 _ H1 m1 s1 Pv.refl (rg1.set r1 i)⟩
  | Tuple ts j tp =>
    cases hn : noSwap e with
    | false => exact bad _ fun g => by simp only [asgS, hn]
    | true =>
      have hc : isComp e = false := by cases e <;> first | rfl | cases hn
      refine ps_weak (ps_asg (hev e) (pg_asg C.toCok (.Tuple ts j tp)) (sws_no hc) (sp_tuple hn) rfl) fun D σ H t => ?_
      obtain ⟨Xx, g, m, S, s, rg, p⟩ := t
      simp only [asgS, hn] at p
      refine ⟨Xx, g, m, S, s, rg, (PostF.bndE (R := Rw X.K Xx) rg p).mono fun y H1 ⟨a, S1, m1, s1, pv1, rg1, r1, p1⟩ => ?_⟩
      rcases asg_same (c := c) (tg := .Tuple ts j tp) (w := a) (g := g) (S := S1) with ⟨g', ea⟩ | ea
      · simp only [Mp.bndE, ea] at p1
        exact ⟨Xx, g, m1, S1, a, g', s1, rg1, r1, ea, fun σ' rg' _ => p1 σ' H1 m1 s1 Pv.refl rg'⟩
      · simp only [Mp.bndE, ea] at p1
        exact p1.elim
  | Subscript a i sp =>
    cases hs : (isSlice i || isComp e) with
    | true => exact bad _ fun g => by simp only [asgS, hs]
    | false =>
      rw [Bool.or_eq_false_iff] at hs
      obtain ⟨hs1, hs2⟩ := hs
      have hp : ∀ v, assign (.Subscript a i sp) X.env v = (do
        let ov ← holding [v] (eval a X.env)
        let iv ← holding [v, ov] (eval i X.env)
        standAt sp
        holding [v, ov, iv] (PySem.setItem ov iv v)
        release [v, ov, iv] []) := by
        intro v
        cases i <;> first | rfl | cases hs1
      have hu := C.toCok.units
      refine ps_weak (ps_asg (hev e) (pg_sub (hev a) (hev i) (rSetI_ok (by omega)) hp) (sws_no hs2) sp_sub rfl) fun D σ H t => ?_
      obtain ⟨Xx, g, m, S, s, rg, p⟩ := t
      simp only [asgS, hs1, hs2, Bool.or_self] at p
      refine ⟨Xx, g, m, S, s, rg, (PostF.bndE (R := Rw X.K Xx) rg p).mono fun y H1 ⟨w1, S1, m1, s1, pv1, rg1, r1, p1⟩ => ?_⟩
      refine ⟨Xx, g, m1, S1, s1, rg1, (PostF.bndE (R := Rw X.K Xx) rg1 p1).mono fun ov H2 ⟨w2, S2, m2, s2, pv2, rg2, r2, p2⟩ => ?_⟩
      refine ⟨Xx, g, m2, S2, s2, rg2, (PostF.bndE (R := Rw X.K Xx) rg2 p2).mono fun iv H3 ⟨w3, S3, m3, s3, pv3, rg3, r3, p3⟩ => ?_⟩
      refine setItem_ok s3 (Q := fun _ H' => D.nx σ H') (E := WE Wx σ) (Rw.mono pv3 _ _ r2) r3 (Rw.mono pv3 _ _ (Rw.mono pv2 _ _ r1)) ((PostF.bndE (R := RU) rg3 p3).mono fun _ H4 ⟨_, S4, m4, s4, pv4, rg4, _, p4⟩ => p4 σ H4 m4 s4 Pv.refl rg4)
  | _ => exact bad _ fun g => rfl
end
end Mp
end

section
set_option Elab.async false
set_option linter.all false
set_option maxRecDepth 100000
set_option maxHeartbeats 400000
set_option autoImplicit false
/-! Mp24: soundness, loops, try, raise, blocks. -/
namespace Mp
open PySem PySem.Spec L2
section
variable {X : Cx} {Wx : WX} {c : Cfg} {k : Nat} {call : Str → List W → M W} {pos : Pos} {o : Orc}
theorem ps_augS (C : Sok X c Wx k call) (hev : ∀ e, PV X Wx e fun g => o.ev c g e) (x : Str) (op : Operator) (e : Expr) (px : Pos) : PF X Wx (.AugAssign (.Name x px) op e pos) fun g => match augOp op with
    | true => Mp.augS o c g x op e
    | false => halt := by
  cases ha : augOp op with
  | false => exact ps_no fun D σ H t => t.no
  | true =>
  cases hi : storeAt c x with
  | none => exact ps_no fun D σ H t => tS.no (t.imp fun g => by simp only [Mp.augS, hi])
  | some i =>
    obtain ⟨h1, h2, h3⟩ := storeAt_ok C.toCok hi
    have step : ∀ (ti : TIp), PIp X op ti → (∀ (Xx : Addr → Prop) (m : List Addr) (S : Store) (H : Hp) (g : Slots) (σ : St) (D : Ends) (v w : W) (a b : V), Sim X.K Xx m S H → Rg X.K Xx m S H g σ → Rw X.K Xx m S H v a → Rw X.K Xx m S H w b → PostF X.K X.mg Wx Xx m S H (augW op g i v w S) D →
        ti a b H fun z H2 => D.nx (σ.set i (some z)) H2) → PF X Wx (.AugAssign (.Name x px) op e pos) fun g => Mp.augS o c g x op e := fun ti hp hh => by
      refine ps_weak (ps_aug C.nd h1 h2 (hev e) hp h3) fun D σ H t => ?_
      obtain ⟨Xx, g, m, S, s, rg, p⟩ := t
      simp only [Mp.augS, hi] at p
      cases eg : g[i]? with
      | none => simp only [eg] at p; exact p.elim
      | some ov =>
        cases ov with
        | none => simp only [eg] at p; exact p.elim
        | some v =>
          simp only [eg] at p
          obtain ⟨a, ea, ra⟩ := rg.at_ i v eg
          exact ⟨a, ea, Xx, g, m, S, s, rg, (PostF.bndE (R := Rw X.K Xx) rg p).mono fun y H1 ⟨w, S1, m1, s1, pv1, rg1, r1, p1⟩ => hh Xx m1 S1 H1 g σ D v w a y s1 rg1 (Rw.mono pv1 _ _ ra) r1 p1⟩
    cases op with
    | Add =>
      refine step _ ip_add fun Xx m S H g σ D v w a b s rg ra rb p => ?_
      unfold augW at p
      cases e1 : asInt v with
      | none => simp only [e1] at p; exact p.elim
      | some x1 =>
        cases e2 : asInt w with
        | none => simp only [e1, e2] at p; exact p.elim
        | some x2 =>
          simp only [e1, e2] at p
          exact ⟨x1, x2, asInt_ok e1 ra, asInt_ok e2 rb, p _ H m s Pv.refl (rg.set (rw_int _) i)⟩
    | Sub =>
      refine step _ ip_sub fun Xx m S H g σ D v w a b s rg ra rb p => ?_
      unfold augW at p
      cases e1 : asInt v with
      | none => simp only [e1] at p; exact p.elim
      | some x1 =>
        cases e2 : asInt w with
        | none => simp only [e1, e2] at p; exact p.elim
        | some x2 =>
          simp only [e1, e2] at p
          exact ⟨x1, x2, asInt_ok e1 ra, asInt_ok e2 rb, p _ H m s Pv.refl (rg.set (rw_int _) i)⟩
    | _ => cases ha
theorem ps_ifS {t : Expr} {a b : List Stmt} {ft : Slots → M Bool} {fa fb : Slots → M Fl} (ht : PB X Wx t ft) (ha : PFs X Wx a fa) (hb : PFs X Wx b fb) : PF X Wx (.If t a b pos) fun g => bndE g (ft g) fun k => match k with
    | true => fa g
    | false => fb g := ps_weak (ps_if ht ha hb) fun D σ H t => by
  obtain ⟨Xx, g, m, S, s, rg, p⟩ := t
  refine ⟨Xx, g, m, S, s, rg, (PostF.bndE (R := RB) rg p).mono fun y H1 ⟨k, S1, m1, s1, pv1, rg1, r1, p1⟩ => ?_⟩
  have r1 : k = y := r1
  subst r1
  cases k with
  | true => exact ⟨Xx, g, m1, S1, s1, rg1, p1⟩
  | false => exact ⟨Xx, g, m1, S1, s1, rg1, p1⟩
theorem ps_whileS (C : Sok X c Wx k call) {t : Expr} {b : List Stmt} {ft : Slots → M Bool} {fb : Slots → M Fl} (ht : PB X Wx t ft) (hb : PFs X Wx b fb) (n : Nat) : PF X Wx (.While t b [] pos) fun g => whileL ft fb n g := ps_weak (ps_while C.own ht hb) fun D σ H t => by
  obtain ⟨Xx, g, m, S, s, rg, p⟩ := t
  refine ⟨fun n σ H => ∃ g m S, Sim X.K Xx m S H ∧ Rg X.K Xx m S H g σ ∧ PostF X.K X.mg Wx Xx m S H (whileL ft fb n g S) D, ⟨n, g, m, S, s, rg, p⟩, ?_⟩
  rintro n σ H ⟨g, m, S, s, rg, p⟩
  cases n with
  | zero => exact p.elim
  | succ n =>
    refine ⟨Xx, g, m, S, s, rg, (PostF.bndE (R := RB) rg p).mono fun y H1 ⟨k, S1, m1, s1, pv1, rg1, r1, p1⟩ => ?_⟩
    have r1 : k = y := r1
    subst r1
    cases k with
    | false => exact p1 σ H1 m1 s1 Pv.refl rg1
    | true =>
      rw [if_pos rfl]
      refine ⟨fun σ' H' => ∃ g m S, Sim X.K Xx m S H' ∧ Rg X.K Xx m S H' g σ' ∧ PostF X.K X.mg Wx Xx m S H' (whileL ft fb n g S) D, fun σ' H' h => ⟨n, Nat.lt_succ_self n, h⟩, Xx, g, m1, S1, s1, rg1, ?_⟩
      dsimp only [Mp.bnd] at p1
      cases e : fb g S1 with
      | stuck => rw [e] at p1; exact p1.elim
      | exc x S2 => rw [e] at p1; exact p1.elim
      | ok f S2 =>
        rw [e] at p1
        cases f with
        | nx g' => exact fun σ' H' m' s' pv' rg' => ⟨g', m', S2, s', rg', p1.from pv'⟩
        | ct g' => exact fun σ' H' m' s' pv' rg' => ⟨g', m', S2, s', rg', p1.from pv'⟩
        | bk g' => exact fun σ' H' m' s' pv' rg' => p1 σ' H' m' s' pv' rg'
        | rt w => exact p1
        | xc x g' => exact p1
theorem PostW.mono {K : PySem.W.Frag} {mg : Str → Option Value} {Xx : Addr → Prop} {m : List Addr} {S : Store} {H : Hp} {g : Slots} {σ : St} {r : Res Wk} {R R' : It → Hp → Prop} {E : XK} (p : PostW K mg Xx m S H g σ r R E) (h : ∀ J H1, R J H1 → R' J H1) : PostW K mg Xx m S H g σ r R' E := by
  cases r with
  | ok a S1 => exact fun m1 H1 J s rg gd pv => h J H1 (p m1 H1 J s rg gd pv)
  | exc x S' => exact p
  | stuck => exact p
theorem ps_forS (C : Sok X c Wx k call) (hev : ∀ e, PV X Wx e fun g => o.ev c g e) {tg it : Expr} {b : List Stmt} {fb : Slots → M Fl} (hset : isSet it = false) (hb : PFs X Wx b fb) :
    PF X Wx (.For tg it b [] pos) fun g => bndE g (walkS (o.ev c g) c tg it) fun r => forW (fun w g => asg c tg w g) fb r walkFuel 0 g :=
  ps_weak (ps_for C.own C.calm (pi_walk C.toCok hev it) (pg_asg C.toCok tg) hb (not_folded C.toCok hset)) fun D σ H t => by
  obtain ⟨Xx, g, mB, SB, sB, rg, p⟩ := t
  refine ⟨Xx, g, mB, SB, sB, rg, ?_⟩
  refine (PostF.walk rg p).mono fun J H1 hq => ?_
  obtain ⟨m1, S1, r, s1, rg1, gd1, p1⟩ := hq
  have le0 : LeW r 0 := by
    cases r with
    | list ws => exact Nat.zero_le _
    | obj n => exact trivial
  refine ⟨fun i n σ H' => LeW r i ∧ ∃ g m S, Sim X.K Xx m S H' ∧ Rg X.K Xx m S H' g σ ∧ GdW X.K (fun _ => False) Xx m S H' J r ∧ PostF X.K X.mg Wx Xx m S H' (forW (fun w g => asg c tg w g) fb r n i g S) D, ⟨walkFuel, le0, g, m1, S1, s1, rg1, gd1, p1⟩, ?_⟩
  rintro i n σ H2 ⟨hi, g, m, S, s, rG, gd, pp⟩
  cases n with
  | zero => exact (show False from pp).elim
  | succ n =>
  rcases gd.step s i hi with e | ⟨e, st⟩ | ⟨w, e, hi1, go, step⟩
  · exfalso
    simp only [forW, Mp.bnd, e] at pp
    exact pp
  · left
    simp only [forW, Mp.bnd, e] at pp
    exact ⟨st, pp σ H2 m s Pv.refl rG⟩
  · right
    refine ⟨go, fun σ' H' => LeW r (i + 1) ∧ ∃ g m S, Sim X.K Xx m S H' ∧ Rg X.K Xx m S H' g σ' ∧ GdW X.K (fun _ => False) Xx m S H' J r ∧ PostF X.K X.mg Wx Xx m S H' (forW (fun w g => asg c tg w g) fb r n (i + 1) g S) D,
      fun σ' H' h => ⟨n, Nat.lt_succ_self n, h⟩, fun x H3 y => ?_⟩
    obtain ⟨s3, pv3, rx⟩ := step x H3 y
    rcases asg_same (c := c) (tg := tg) (w := w) (g := g) (S := S) with ⟨g', ea⟩ | ea
    · refine ⟨Xx, g, m, S, _, g', s3, Rg.mono pv3 rG, rx, ea, fun σ2 rg2 ag => ⟨Xx, g', m, S, s3, rg2, ?_⟩⟩
      simp only [forW, Mp.bnd, e, ea] at pp
      cases e : fb g' S with
      | stuck => simp only [e] at pp; exact pp.elim
      | exc x S2 => simp only [e] at pp; exact pp.elim
      | ok f S2 =>
        simp only [e] at pp
        have pp := PostF.from pp pv3
        cases f with
        | nx g2 => exact fun σ' H' m' s' pv' rg' => ⟨hi1, g2, m', S2, s', rg', (gd.mono pv3).mono pv', PostF.from pp pv'⟩
        | ct g2 => exact fun σ' H' m' s' pv' rg' => ⟨hi1, g2, m', S2, s', rg', (gd.mono pv3).mono pv', PostF.from pp pv'⟩
        | bk g2 => exact pp
        | rt w => exact pp
        | xc x g2 => exact pp
    · exfalso
      simp only [forW, Mp.bnd, e, ea] at pp
      exact pp
/-! ### raise, try -/
theorem excName_ok {x : Str} (C : Sok X c Wx k call) (h : excName c x = true) : okName x = true ∧ Gl X x ∧ ∃ D B newId initId bm, ExK X.K X.mg x D B newId initId bm := by
  unfold excName at h
  simp only [Bool.and_eq_true] at h
  refine ⟨h.1.1, C.toCok.gl h.1.2, ?_⟩
  have h2 := h.2
  split at h2
  · exact C.g.exc x (by assumption)
  · cases h2
theorem ps_raiseS (C : Sok X c Wx k call) (x mm : Str) (j : Nat) (p p2 p3 : Pos) : PF X Wx (.Raise (some (.Call (.Name x p) [.Constant (.str mm) j p2] [] p3)) none pos) fun g => match excName c x with
    | true => ret (.xc ⟨x, none⟩ g)
    | false => halt := by
  cases h : excName c x with
  | false => exact ps_no fun D σ H t => t.no
  | true =>
    obtain ⟨h1, h2, D, B, nI, iI, bm, K⟩ := excName_ok C h
    obtain ⟨d1, d2, d3⟩ := okName_ok h1
    refine ps_weak (ps_raise C.calm C.tk (pmk_own K.F K.q K.g K.kp (raises_own K.sb K.ty) h2 d1)) fun DD σ H t => ?_
    obtain ⟨Xx, g, m, S, s, rg, p⟩ := t
    exact p D none σ H m s Pv.refl rg K.g rfl rfl
/-- the suite of an except clause -/
def tSu (K : PySem.W.Frag) (mg : Str → Option Value) (Wx : WX) (c : Cfg) (ss : List Stmt) : TS := fun D σ H => ∃ Xx g m S f, Sim K Xx m S H ∧ Rg K Xx m S H g σ ∧ suiteSt c ss g = some f ∧ PostF K mg Wx Xx m S H (.ok f S) D
theorem pss_suite {Y : Cx} (hK : Y.K = X.K) (hmg : Y.mg = X.mg) (hN : Y.N.Nodup) (hs : ∀ (x : Str) (i : Nat), storeAt c x = some i → Y.N[i]? = some x ∧ Loc Y.env.scope x ∧ (Y.fn x = true ∨ Y.env.scope.names.lookup x = some .local)) : ∀ ss : List Stmt, PSs Y ss (tSu X.K X.mg Wx c ss)
  | [] => pss_weak pss_nil fun D σ H t => by
    obtain ⟨Xx, g, m, S, f, s, rg, e, p⟩ := t
    cases e
    exact p σ H m s Pv.refl rg
  | st :: r => by
    have ih := pss_suite hK hmg hN hs r
    have no : (∀ g, suiteSt c (st :: r) g = none) → PSs Y (st :: r) (tSu X.K X.mg Wx c (st :: r)) := fun h => pss_no fun D σ H t => by
      obtain ⟨Xx, g, m, S, f, s, rg, e, p⟩ := t
      rw [h g] at e
      cases e
    cases st with
    | Pass p =>
      refine pss_weak (pss_cons ps_pass ih) fun D σ H t => ?_
      obtain ⟨Xx, g, m, S, f, s, rg, e, p⟩ := t
      exact ⟨Xx, g, m, S, f, s, rg, e, p⟩
    | Return e p =>
      cases e with
      | none => exact no fun g => rfl
      | some e =>
        cases e with
        | Constant v j cp =>
          cases v with
          | none =>
            refine pss_weak (pss_cons (ps_ret pe_non) pss_never) fun D σ H t => ?_
            obtain ⟨Xx, g, m, S, f, s, rg, e, p⟩ := t
            cases e
            exact p _ H m s Pv.refl rw_none
          | bool b =>
            refine pss_weak (pss_cons (ps_ret pe_bl) pss_never) fun D σ H t => ?_
            obtain ⟨Xx, g, m, S, f, s, rg, e, p⟩ := t
            cases e
            exact p _ H m s Pv.refl (rw_bool _)
          | _ => exact no fun g => rfl
        | _ => exact no fun g => rfl
    | Assign tgs e p =>
      match tgs with
      | [] => exact no fun g => rfl
      | h1 :: h2 :: t => exact no fun g => by cases h1 <;> rfl
      | [tg] =>
        cases tg with
        | Name x px =>
          cases e with
          | Constant v j cp =>
            cases hi : storeAt c x with
            | none => exact no fun g => by simp only [suiteSt, hi]
            | some i =>
              obtain ⟨h1, h2, h3⟩ := hs x i hi
              cases v with
              | none =>
                refine pss_weak (pss_cons (ps_set hN h1 h2 pe_non rfl h3) ih) fun D σ H t => ?_
                obtain ⟨Xx, g, m, S, f, s, rg, e, p⟩ := t
                simp only [suiteSt, hi] at e
                exact ⟨Xx, _, m, S, f, s, rg.set rw_none i, e, p⟩
              | bool b =>
                refine pss_weak (pss_cons (ps_set hN h1 h2 pe_bl rfl h3) ih) fun D σ H t => ?_
                obtain ⟨Xx, g, m, S, f, s, rg, e, p⟩ := t
                simp only [suiteSt, hi] at e
                exact ⟨Xx, _, m, S, f, s, rg.set (rw_bool _) i, e, p⟩
              | int b =>
                refine pss_weak (pss_cons (ps_set hN h1 h2 pe_int rfl h3) ih) fun D σ H t => ?_
                obtain ⟨Xx, g, m, S, f, s, rg, e, p⟩ := t
                simp only [suiteSt, hi] at e
                exact ⟨Xx, _, m, S, f, s, rg.set (rw_int _) i, e, p⟩
              | _ => exact no fun g => by simp only [suiteSt, hi]
          | _ => exact no fun g => rfl
        | _ => exact no fun g => by cases e <;> rfl
    | _ => exact no fun g => rfl
theorem ps_tryS (C : Sok X c Wx k call) {x : Str} {b : List Stmt} {fb : Slots → M Fl} (hb : ∀ (Y : Cx) (Wy : WX), Sok Y c Wy k call → PFs Y Wy b fb) (s0 : Stmt) (ss : List Stmt) (np p1 : Pos) :
    PF X Wx (.Try b [.ExceptHandler (some (.Name x np)) none (s0 :: ss) p1] [] [] pos) fun g => match excName c x with
    | true => bnd (fb g) (tryEnd c x (s0 :: ss))
    | false => halt := by
  cases h : excName c x with
  | false => exact ps_no fun D σ H t => t.no
  | true =>
    obtain ⟨h1, h2, D, B, nI, iI, bm, K⟩ := excName_ok C h
    obtain ⟨d1, d2, d3⟩ := okName_ok h1
    refine ps_weak (ps_try_only (tb := fun W => tS X.K X.mg W fb) (ts := fun _ _ _ => tSu X.K X.mg Wx c (s0 :: ss)) C.stk C.frm (c := .ref D) ⟨h2, d1, .inl K.g⟩ C.tk
      (fun W pn xe tk ow => hb (X.tr pn xe) W (C.tr pn xe tk ow))
      (fun a oe cls d pn _ _ => pss_suite (Y := X.suite a ((a, oe) :: pn)) rfl rfl C.nd (fun y i hi => storeAt_ok C.toCok hi) (s0 :: ss))) fun DD σ H t => ?_
    obtain ⟨Xx, g, m, S, s, rg, p⟩ := t
    refine ⟨Xx, g, m, S, s, rg, ?_⟩
    dsimp only [Mp.bnd] at p
    cases e : fb g S with
    | stuck => rw [e] at p; exact p.elim
    | exc y S2 => rw [e] at p; exact p.elim
    | ok f S2 =>
      rw [e] at p
      cases f with
      | nx g' => exact p
      | ct g' => exact p
      | bk g' => exact p
      | rt w => exact p
      | xc y g' =>
        intro C' d σ' H' m' s' pv' rg' e1 e2 e3
        dsimp only [tryEnd] at p
        cases es : c.G.sub y.cls x with
        | none => rw [es] at p; exact p.elim
        | some b =>
          rw [es] at p
          obtain ⟨Ca, Da, g1, g2, g3⟩ := C.g.sub y.cls x b es
          rw [e1] at g1
          cases g1
          rw [K.g] at g2
          cases g2
          refine ⟨b, g3, fun hb a ha => ?_, fun hb => ?_⟩
          · subst hb
            dsimp only at p
            cases e4 : suiteSt c (s0 :: ss) g' with
            | none => rw [e4] at p; exact p.elim
            | some f =>
              rw [e4] at p
              exact ⟨Xx, g', m', S2, f, s', rg', e4, PostF.from p pv'⟩
          · subst hb
            exact p C' d σ' H' m' s' pv' rg' e1 e2 e3
theorem pss_blkS {fs : Slots → Stmt → M Fl} (h : ∀ st, PF X Wx st fun g => fs g st) : ∀ ss, PFs X Wx ss fun g => blkStep fs ss g
  | [] => pss_weak pss_nil fun D σ H t => by
    obtain ⟨Xx, g, m, S, s, rg, p⟩ := t
    exact p σ H m s Pv.refl rg
  | st :: r => pss_weak (pss_cons (h st) (pss_blkS h r)) fun D σ H t => by
    obtain ⟨Xx, g, m, S, s, rg, p⟩ := t
    refine ⟨Xx, g, m, S, s, rg, ?_⟩
    dsimp only [blkStep, Mp.bnd] at p
    show PostF X.K X.mg Wx Xx m S H (fs g st S) _
    cases e : fs g st S with
    | stuck => rw [e] at p; exact p.elim
    | exc y S2 => rw [e] at p; exact p.elim
    | ok f S2 =>
      rw [e] at p
      cases f with
      | nx g' => exact fun σ' H' m' s' pv' rg' => ⟨Xx, g', m', S2, s', rg', PostF.from p pv'⟩
      | ct g' => exact p
      | bk g' => exact p
      | rt w => exact p
      | xc y g' => exact p
end
end Mp
end

section
set_option Elab.async false
set_option linter.all false
set_option maxRecDepth 100000
set_option maxHeartbeats 400000
set_option autoImplicit false
/-! Mp25: soundness, one step of the interpreter. -/
namespace Mp
open PySem PySem.Spec L2
section
variable {k : Nat} {call : Str → List W → M W} {o : Orc}
abbrev IHE (k : Nat) (call : Str → List W → M W) (o : Orc) : Prop := ∀ (X : Cx) (c : Cfg) (Wx : WX), Cok X c Wx k call → ∀ e, PV X Wx e fun g => o.ev c g e
abbrev IHT (k : Nat) (call : Str → List W → M W) (o : Orc) : Prop := ∀ (X : Cx) (c : Cfg) (Wx : WX), Cok X c Wx k call → ∀ e, PB X Wx e fun g => o.tst c g e
abbrev IHB (k : Nat) (call : Str → List W → M W) (o : Orc) : Prop := ∀ (X : Cx) (c : Cfg) (Wx : WX), Sok X c Wx k call → ∀ ss, PFs X Wx ss fun g => o.blk c g ss
variable {X : Cx} {Wx : WX} {c : Cfg} {pos : Pos}
theorem pv_halt {e : Expr} {f : Slots → M W} (h : ∀ g, f g = halt) : PV X Wx e f := pe_no fun σ H Q t => tX.no (tX.imp t h)
theorem pb_halt {e : Expr} {f : Slots → M Bool} (h : ∀ g, f g = halt) : PB X Wx e f := pt_no fun σ H Q t => tX.no (tX.imp t h)
theorem pf_halt {e : Stmt} {f : Slots → M Fl} (h : ∀ g, f g = halt) : PF X Wx e f := ps_no fun D σ H t => tS.no (t.imp h)
theorem pv_eq {e : Expr} {f f' : Slots → M W} (h : PV X Wx e f) (hh : ∀ g, f' g = f g) : PV X Wx e f' := pe_weak h fun σ H Q t => tX.imp t hh
theorem pv_cmpE (C : Cok X c Wx k call) (ihE : IHE k call o) (a : Expr) (ops : List CmpOp) (es : List Expr) : PV X Wx (.Compare a ops es pos) fun g => cmpE (o.ev c g) a ops es := by
  have hev := ihE X c Wx C
  have hu := C.units
  match ops, es with
  | [op], [b] =>
    cases hs : isSet b with
    | true => exact pv_halt fun g => by simp only [cmpE, hs]
    | false => exact pv_eq (pv_cmp (by omega) op hs (hev a) (hev b)) fun g => by simp only [cmpE, hs]
  | [op, op'], [b, d] =>
    cases hs : isSet d with
    | true => exact pv_halt fun g => by simp only [cmpE, hs]
    | false => exact pv_eq (pv_cmp' (by omega) op op' hs (hev a) (hev b) (hev d)) fun g => by (simp only [cmpE, hs]) <;> rfl
  | [], _ => exact pv_halt fun g => rfl
  | [_], [] => exact pv_halt fun g => rfl
  | [_], _ :: _ :: _ => exact pv_halt fun g => rfl
  | [_, _], [] => exact pv_halt fun g => rfl
  | [_, _], [_] => exact pv_halt fun g => rfl
  | [_, _], _ :: _ :: _ :: _ => exact pv_halt fun g => rfl
  | _ :: _ :: _ :: _, _ => exact pv_halt fun g => rfl
theorem pb_cmpE (C : Cok X c Wx k call) (ihE : IHE k call o) (a : Expr) (ops : List CmpOp) (es : List Expr) : PB X Wx (.Compare a ops es pos) fun g => bnd (cmpE (o.ev c g) a ops es) fun x => match asBool x with
    | some b => ret b
    | none => halt := by
  have hev := ihE X c Wx C
  have hu := C.units
  refine pb_of ?_
  have no : (∀ g, cmpE (o.ev c g) a ops es = halt) → PT X (.Compare a ops es pos) (fun σ H Q => tE X.K X.mg Wx (fun g => cmpE (o.ev c g) a ops es) σ H fun x H' => ∃ k, x = .bl k ∧ Q k H') := fun h => pt_no fun σ H Q t => tX.no (tX.imp t h)
  match ops, es, no with
  | [op], [b], no =>
    cases hs : isSet b with
    | true => exact no fun g => by simp only [cmpE, hs]
    | false => exact pt_weak (pb_cmp (by omega) op hs (hev a) (hev b)) fun σ H Q t => tX.imp t fun g => by simp only [cmpE, hs]
  | [op, op'], [b, d], no =>
    cases hs : isSet d with
    | true => exact no fun g => by simp only [cmpE, hs]
    | false => exact pt_weak (pb_cmp' (by omega) op op' hs (hev a) (hev b) (hev d)) fun σ H Q t => tX.imp t fun g => by (simp only [cmpE, hs]) <;> rfl
  | [], _, no => exact no fun g => rfl
  | [_], [], no => exact no fun g => rfl
  | [_], _ :: _ :: _, no => exact no fun g => rfl
  | [_, _], [], no => exact no fun g => rfl
  | [_, _], [_], no => exact no fun g => rfl
  | [_, _], _ :: _ :: _ :: _, no => exact no fun g => rfl
  | _ :: _ :: _ :: _, _, no => exact no fun g => rfl
theorem isM1_ok {s : Expr} (h : isM1 s = true) : ∃ j p1 p2, s = .UnaryOp .USub (.Constant (.int 1) j p1) p2 := by
  unfold isM1 at h
  split at h
  · rename_i i j p1 p2
    have := of_decide_eq_true h
    subst this
    exact ⟨j, p1, p2, rfl⟩
  · cases h
theorem pv_subE (C : Cok X c Wx k call) (ihE : IHE k call o) (live : Bool) (a i : Expr) : PV X Wx (.Subscript a i pos) fun g => subE (o.ev c g) live a i := by
  have hev := ihE X c Wx C
  have hu := C.units
  cases hi : isSlice i with
  | false => exact pv_eq (pv_ix (by omega) hi (hev a) (hev i)) fun g => by cases i <;> first | rfl | cases hi
  | true =>
    cases i with
    | Slice lo hi' st p2 =>
      cases st with
      | none => exact pv_eq (pv_slice hev a lo hi' p2 live) fun g => rfl
      | some s =>
        cases hm : isM1 s with
        | false => exact pv_halt fun g => by simp only [subE, hm]
        | true =>
          cases lo with
          | some _ => exact pv_halt fun g => by simp only [subE, hm]
          | none =>
            cases hi' with
            | some _ => exact pv_halt fun g => by simp only [subE, hm]
            | none =>
              obtain ⟨j, p1, p3, es⟩ := isM1_ok hm
              subst es
              exact pv_eq (pv_rev (hev a) j p1 p3 p2 live) fun g => by simp only [subE, hm]
    | _ => cases hi
theorem pv_lcE (C : Cok X c Wx k call) (ihE : IHE k call o) (ihT : IHT k call o) (elt : Expr) (gs : List Comprehension) (scope : Scope) : PV X Wx (.ListComp elt gs scope pos) fun g => lcE o c g elt gs scope pos := by
  match gs with
  | [] => exact pv_halt fun g => rfl
  | h :: _ :: _ => exact pv_halt fun g => by cases h; rfl
  | [⟨tg, it, ifs, z⟩] =>
    by_cases hz : z = 0
    · subst hz
      exact pv_eq (pv_comp ihE ihT C elt tg it ifs scope pos) fun g => rfl
    · exact pv_halt fun g => by simp only [lcE, hz, decide_false]
theorem pairE_ok {ev : Expr → M W} {live : Bool} {f : Str} {args : List Expr} {m : M W} (h : pairE ev c live f args = some m) : ∃ hh hp a q, args = [.Call (.Name hh hp) [a] [] q] ∧ ((f = "list" ∧ hh = "range") ∨ (f = "len" ∧ hh = "set")) := by
  unfold pairE at h
  split at h
  · rename_i hh hp a q
    refine ⟨hh, hp, a, q, rfl, ?_⟩
    split at h
    · exact .inl (by assumption)
    · split at h
      · exact .inr (by assumption)
      · cases h
  · cases h
theorem pv_callG (C : Cok X c Wx k call) (ihE : IHE k call o) (f : Expr) (args : List Expr) (kws : List Keyword) : PV X Wx (.Call f args kws pos) fun g => callG call (o.ev c g) c f args kws pos := by
  have hev := ihE X c Wx C
  cases f with
  | Name f fp =>
    match kws with
    | [] =>
      by_cases hp : ∃ hh hp a q, args = [.Call (.Name hh hp) [a] [] q] ∧ ((f = "list" ∧ hh = "range") ∨ (f = "len" ∧ hh = "set"))
      · obtain ⟨hh, hp, a, q, ea, h | h⟩ := hp
        · obtain ⟨e1, e2⟩ := h
          subst ea e1 e2
          by_cases hc : isBlt c "list" = true ∧ isBlt c "range" = true ∧ isStar a = false
          · exact pv_eq (pv_listRg C (hev a) fp hp q (c.isLive pos) hc.1 hc.2.1 hc.2.2) fun g => by
              simp only [callG, pairE]
              rw [if_pos ⟨trivial, trivial⟩, if_pos hc]
          · exact pv_halt fun g => by
              simp only [callG, pairE]
              rw [if_pos ⟨trivial, trivial⟩, if_neg hc]
        · obtain ⟨e1, e2⟩ := h
          subst ea e1 e2
          by_cases hc : isBlt c "len" = true ∧ isBlt c "set" = true ∧ isStar a = false
          · exact pv_eq (pv_lenSet C (hev a) fp hp q hc.1 hc.2.1 hc.2.2) fun g => by
              simp only [callG, pairE]
              rw [if_neg (by decide), if_pos ⟨trivial, trivial⟩, if_pos hc]
          · exact pv_halt fun g => by
              simp only [callG, pairE]
              rw [if_neg (by decide), if_pos ⟨trivial, trivial⟩, if_neg hc]
      · refine pv_eq (pv_callE C hev f fp (c.isLive pos) args) fun g => ?_
        cases hq : pairE (o.ev c g) c (c.isLive pos) f args with
        | none => simp only [callG, hq]
        | some m => exact absurd (pairE_ok hq) hp
    | [⟨nm, e, kp⟩] =>
      match args, nm with
      | _ :: _, _ => exact pv_halt fun g => rfl
      | [], none => exact pv_halt fun g => rfl
      | [], some x =>
        cases hd : (isDef c f && c.G.kw f x) with
        | false => exact pv_halt fun g => by simp only [callG, kwE, hd]
        | true =>
          have hd' := hd
          rw [Bool.and_eq_true] at hd'
          exact pv_eq (pv_callK C (hev e) f x fp kp hd'.1 hd'.2) fun g => by simp only [callG, kwE, hd]
    | _ :: _ :: _ => exact pv_halt fun g => rfl
  | Attribute b m apos =>
    match kws with
    | [] =>
      cases hc : (noStars args && methN m args.length && lineOk apos pos && plainBase b) with
      | false => exact pv_halt fun g => by simp only [callG, methE, hc]
      | true =>
        have hc' := hc
        simp only [Bool.and_eq_true] at hc'
        exact pv_eq (pv_meth C hev b m apos pos args hc'.1.1.1 hc'.1.1.2 hc'.1.2 hc'.2) fun g => by simp only [callG, methE, hc]
    | _ :: _ => exact pv_halt fun g => rfl
  | _ => exact pv_halt fun g => rfl
theorem ev_ok (ihE : IHE k call o) (ihT : IHT k call o) (C : Cok X c Wx k call) (e : Expr) : PV X Wx e fun g => evStep call o c g e := by
  have hev := ihE X c Wx C
  cases e with
  | Constant v j p => exact pv_const v j p
  | Name x p => exact pv_name C x p
  | Tuple es j p =>
    cases hs : noStars es with
    | true => exact pv_eq (pv_tuple hev es j hs) fun g => by simp only [evStep, hs]
    | false => exact pv_halt fun g => by simp only [evStep, hs]
  | List es p =>
    cases hs : noStars es with
    | true => exact pv_eq (pv_list hev es hs (c.isLive p)) fun g => by simp only [evStep, hs]
    | false => exact pv_halt fun g => by simp only [evStep, hs]
  | BinOp a op b p => exact pv_bin op (c.isLive p) (hev a) (hev b)
  | UnaryOp op a p =>
    cases op with
    | USub => exact pv_neg (hev a)
    | Not => exact pv_not (hev a)
    | _ => exact pv_halt fun g => rfl
  | BoolOp op es p => exact pv_bool hev op es
  | Compare a ops es p => exact pv_cmpE C ihE a ops es
  | IfExp t a b p => exact pv_if (ihT X c Wx C t) (hev a) (hev b)
  | Subscript a i p => exact pv_subE C ihE (c.isLive p) a i
  | ListComp elt gs scope p => exact pv_lcE C ihE ihT elt gs scope
  | Dict ks vs p =>
    match ks, vs with
    | [], [] => exact pv_dict0
    | [some a], [b] => exact pv_disp hev a b
    | [], _ :: _ => exact pv_halt fun g => rfl
    | [none], _ => exact pv_halt fun g => rfl
    | [some _], [] => exact pv_halt fun g => rfl
    | [some _], _ :: _ :: _ => exact pv_halt fun g => rfl
    | a :: _ :: _, _ => exact pv_halt fun g => by cases a <;> rfl
  | Call f args kws p => exact pv_callG C ihE f args kws
  | _ => exact pv_halt fun g => rfl
theorem tst_ok (ihE : IHE k call o) (ihT : IHT k call o) (C : Cok X c Wx k call) (e : Expr) : PB X Wx e fun g => tstStep (evStep call o c g) o c g e := by
  have hts := ihT X c Wx C
  have hev := fun e => ev_ok ihE ihT C e
  cases e with
  | BoolOp op es p =>
    cases op with
    | And => exact (pb_and hts es).pt
    | Or => exact (pb_or hts es).pt
  | UnaryOp op a p =>
    cases op with
    | Not => exact pb_not (hts a)
    | _ => exact pb_halt fun g => rfl
  | Compare a ops es p => exact pb_cmpE C ihE a ops es
  | Constant v j p => exact pb_truth (hev _) fun _ => rfl
  | Name x p => exact pb_truth (hev _) fun _ => rfl
  | Call f a b p => exact pb_truth (hev _) fun _ => rfl
  | Subscript a b p => exact pb_truth (hev _) fun _ => rfl
  | BinOp a op b p => exact pb_truth (hev _) fun _ => rfl
  | _ => exact pb_halt fun g => rfl
end
end Mp
end

section
set_option Elab.async false
set_option linter.all false
set_option maxRecDepth 100000
set_option maxHeartbeats 400000
set_option autoImplicit false
/-! Mp26: soundness, statements by their form, the interpreter at any depth, a def's promise. -/
namespace Mp
open PySem PySem.Spec L2
section
variable {k : Nat} {call : Str → List W → M W} {o : Orc} {X : Cx} {Wx : WX} {c : Cfg} {pos : Pos}
theorem pf_eq {e : Stmt} {f f' : Slots → M Fl} (h : PF X Wx e f) (hh : ∀ g, f' g = f g) : PF X Wx e f' := ps_weak h fun D σ H t => t.imp hh
theorem ps_raiseE (C : Sok X c Wx k call) (e : Expr) : PF X Wx (.Raise (some e) none pos) fun g => raiseS c g e := by
  cases e with
  | Call f args kws p =>
    cases f with
    | Name x np =>
      match args, kws with
      | [a], [] =>
        cases a with
        | Constant v j cp =>
          cases v with
          | str z => exact pf_eq (ps_raiseS C x z j np cp p) fun g => rfl
          | _ => exact pf_halt fun g => rfl
        | _ => exact pf_halt fun g => rfl
      | [], _ => exact pf_halt fun g => rfl
      | [a], _ :: _ => exact pf_halt fun g => by cases a <;> rfl
      | a :: _ :: _, _ => exact pf_halt fun g => by cases a <;> rfl
    | _ => exact pf_halt fun g => rfl
  | _ => exact pf_halt fun g => rfl
theorem ps_tryE (C : Sok X c Wx k call) (ihB : IHB k call o) (b : List Stmt) (h : ExceptHandler) : PF X Wx (.Try b [h] [] [] pos) fun g => tryS o c g b h := by
  cases h with
  | ExceptHandler t nm body p =>
    cases t with
    | none => exact pf_halt fun g => rfl
    | some t =>
      cases t with
      | Name x np =>
        cases nm with
        | some _ => exact pf_halt fun g => rfl
        | none =>
          cases body with
          | nil => exact pf_halt fun g => rfl
          | cons s0 ss => exact pf_eq (ps_tryS C (fb := fun g => o.blk c g b) (fun Y Wy CY => ihB Y c Wy CY b) s0 ss np p) fun g => rfl
      | _ => exact pf_halt fun g => rfl
/-- how the oracle takes a comprehension -/
abbrev HLC (k : Nat) (call : Str → List W → M W) (o : Orc) : Prop := (∀ (c : Cfg) (g : Slots) (elt : Expr) (gs : List Comprehension) (scope : Scope) (pos : Pos), o.ev c g (.ListComp elt gs scope pos) = halt) ∨
  ∃ o' : Orc, IHE k call o' ∧ IHT k call o' ∧ ∀ (c : Cfg) (g : Slots) (elt : Expr) (gs : List Comprehension) (scope : Scope) (pos : Pos), o.ev c g (.ListComp elt gs scope pos) = lcE o' c g elt gs scope pos
theorem st_ok (ihE : IHE k call o) (ihT : IHT k call o) (ihB : IHB k call o) (hc : HLC k call o) (C : Sok X c Wx k call) (st : Stmt) : PF X Wx st fun g => stStep o c g st := by
  have hev := ihE X c Wx C.toCok
  have hts := ihT X c Wx C.toCok
  have hbl := ihB X c Wx C
  cases st with
  | Expr e p => exact ps_exprS hev e
  | Assign tgs e p =>
    match tgs with
    | [] => exact pf_halt fun g => rfl
    | _ :: _ :: _ => exact pf_halt fun g => rfl
    | [tg] =>
      refine pf_eq (ps_asgS C ihE (fun elt scope pos spos py y i hi hy hl ha gs => ?_) tg e) fun g => rfl
      have no : (∀ g, o.ev c g (.ListComp elt gs scope pos) = halt) → PS X (.Assign [.Name y py] (.ListComp elt gs scope pos) spos) (tAsg (tE X.K X.mg Wx fun g => o.ev c g (.ListComp elt gs scope pos)) (gName i)) := fun h => ps_no fun D σ H t => tX.no (tX.imp t h)
      rcases hc with h | ⟨o', iE, iT, h⟩
      · exact no fun g => h c g elt gs scope pos
      · match gs with
        | [] => exact no fun g => h c g elt [] scope pos
        | a :: b :: r => exact no fun g => (h c g elt (a :: b :: r) scope pos).trans (by cases a; rfl)
        | [⟨tg, it, ifs, z⟩] =>
          by_cases hz : z = 0
          · subst hz
            refine ps_weak (ps_comp iE iT C.toCok elt tg it ifs scope pos spos py y hi C.kind hy hl ha) fun D σ H t => tX.imp t fun g => ?_
            exact (h c g elt _ scope pos)
          · exact no fun g => (h c g elt _ scope pos).trans (by simp only [lcE, hz, decide_false])
  | AugAssign tg op e p =>
    cases tg with
    | Name x px => exact pf_eq (ps_augS C hev x op e px) fun g => rfl
    | _ => exact pf_halt fun g => rfl
  | If t a b p => exact ps_ifS (hts t) (hbl a) (hbl b)
  | While t b e p =>
    cases e with
    | nil => exact ps_whileS C (hts t) (hbl b) whileFuel
    | cons _ _ => exact pf_halt fun g => rfl
  | For tg it b e p =>
    cases e with
    | cons _ _ => exact pf_halt fun g => rfl
    | nil =>
      cases hs : isSet it with
      | true => exact pf_halt fun g => by simp only [stStep, hs]
      | false => exact pf_eq (ps_forS C hev hs (hbl b)) fun g => by simp only [stStep, hs]
  | Return v p =>
    cases v with
    | some e =>
      refine ps_weak (ps_ret (hev e)) fun D σ H t => ?_
      obtain ⟨Xx, g, m, S, s, rg, q⟩ := t
      exact ⟨Xx, g, m, S, s, rg, (PostF.bndE (R := Rw X.K Xx) rg q).mono fun y H1 ⟨a, S1, m1, s1, pv1, rg1, r1, p1⟩ => p1 y H1 m1 s1 Pv.refl r1⟩
    | none =>
      refine ps_weak ps_retN fun D σ H t => ?_
      obtain ⟨Xx, g, m, S, s, rg, q⟩ := t
      exact q _ H m s Pv.refl rw_none
  | Raise e c' p =>
    cases e with
    | none => exact pf_halt fun g => rfl
    | some e =>
      cases c' with
      | some _ => exact pf_halt fun g => rfl
      | none => exact pf_eq (ps_raiseE C e) fun g => rfl
  | Try b hs e f p =>
    match hs, e, f with
    | [h], [], [] => exact pf_eq (ps_tryE C ihB b h) fun g => rfl
    | [], _, _ => exact pf_halt fun g => rfl
    | [_], _ :: _, _ => exact pf_halt fun g => rfl
    | [_], [], _ :: _ => exact pf_halt fun g => rfl
    | _ :: _ :: _, _, _ => exact pf_halt fun g => rfl
  | Pass p =>
    refine ps_weak ps_pass fun D σ H t => ?_
    obtain ⟨Xx, g, m, S, s, rg, q⟩ := t
    exact q σ H m s Pv.refl rg
  | Break p =>
    refine ps_weak ps_break fun D σ H t => ?_
    obtain ⟨Xx, g, m, S, s, rg, q⟩ := t
    exact q σ H m s Pv.refl rg
  | Continue p =>
    refine ps_weak ps_continue fun D σ H t => ?_
    obtain ⟨Xx, g, m, S, s, rg, q⟩ := t
    exact q σ H m s Pv.refl rg
  | _ => exact pf_halt fun g => rfl
end
/-- the interpreter tells the truth, at any depth -/
theorem run_ok {k : Nat} {call : Str → List W → M W} : ∀ n : Nat, IHE k call (run call n) ∧ IHT k call (run call n) ∧ IHB k call (run call n) ∧ HLC k call (run call n)
  | 0 => ⟨fun X c Wx C e => pv_halt fun g => rfl, fun X c Wx C e => pb_halt fun g => rfl, fun X c Wx C ss => pss_no fun D σ H t => tS.no t, .inl fun c g elt gs scope pos => rfl⟩
  | n + 1 => by
    obtain ⟨iE, iT, iB, iC⟩ := run_ok (k := k) (call := call) n
    exact ⟨fun X c Wx C e => ev_ok iE iT C e, fun X c Wx C e => tst_ok iE iT C e, fun X c Wx C ss => pss_blkS (fun st => st_ok iE iT iB iC C st) ss, .inr ⟨run call n, iE, iT, fun c g elt gs scope pos => rfl⟩⟩
/-! ### a def -/
section
variable {P : Program} {w : World} {K : PySem.W.Frag} {mg : Str → Option Value} {base : Heap} {k : Nat} {G : Glob} {call : Str → List W → M W}
theorem rg_start {Xx : Addr → Prop} {m : List Addr} {S : Store} {H : Hp} {ws : List W} {vs : List V} (N : List Str) (r : Rws K Xx m S H ws vs) : Rg K Xx m S H (ws.map some ++ List.replicate (N.length - ws.length) none) (L2.start N vs) := by
  have hl := rws_len r
  unfold L2.start
  refine ⟨by simp [hl], fun i w e => ?_⟩
  by_cases hi : i < ws.length
  · rw [List.getElem?_append_left (by simpa using hi), List.getElem?_map] at e
    cases q : ws[i]? with
    | none => rw [q] at e; cases e
    | some w' =>
      rw [q] at e
      cases e
      obtain ⟨v, ev, rv⟩ := rws_get r q
      exact ⟨v, by rw [List.getElem?_append_left (by rw [List.length_map, ← hl]; exact hi), List.getElem?_map, ev]; rfl, rv⟩
  · rw [List.getElem?_append_right (by simpa using hi), List.getElem?_replicate] at e
    split at e <;> cases e
/-- what a body's end gives the caller -/
theorem finish_ok {Xx : Addr → Prop} {m : List Addr} {S : Store} {H : Hp} {r : Res Fl} {Q : VK} {E : XK} (s : Sim K Xx m S H) (p : Post K mg Xx (Rw K Xx) m S H (finish S.length r) Q E) :
    PostF K mg (fun cls d _ H' => E cls d H') Xx m S H r { nx := fun _ H' => Q .non H', rt := Q } := by
  cases r with
  | stuck => exact p
  | exc x S' => exact p
  | ok f S' =>
    cases f with
    | nx g => exact fun σ' H' m' s' pv' rg' => p .non H' (m'.take S.length) (s'.take _) (pv'.take s) rw_none
    | bk g => exact (show False from p).elim
    | ct g => exact (show False from p).elim
    | xc x g => exact fun C d σ' H' m' s' pv' rg' e1 e2 e3 => p C d H' (m'.take S.length) (s'.take _) (pv'.take s) e1 e2 e3
    | rt w =>
      intro v H' m' s' pv' r'
      cases w with
      | dat x => exact p v H' (m'.take S.length) (s'.take _) (pv'.take s) (Rw.take rfl r')
      | con x => exact p v H' (m'.take S.length) (s'.take _) (pv'.take s) r'
      | obj n =>
        have p : Post K mg Xx (Rw K Xx) m S H (match decide (n < S.length) with
          | true => .ok (.obj n) (S'.take S.length)
          | false => match S'[n]? with
            | some (some (.lst ws)) => match allDat ws with
              | some ds => .ok (.dat (.list ds)) (S'.take S.length)
              | none => .stuck
            | _ => .stuck) Q E := p
        by_cases hn : n < S.length
        · rw [decide_eq_true hn] at p
          exact p v H' (m'.take S.length) (s'.take _) (pv'.take s) (Rw.take (decide_eq_true hn) r')
        · rw [decide_eq_false hn] at p
          dsimp only at p
          split at p
          · rename_i ws en
            cases ed : allDat ws with
            | none => rw [ed] at p; exact p.elim
            | some ds =>
              rw [ed] at p
              obtain ⟨a, ea, ev⟩ := (show ∃ a, _ from r')
              obtain ⟨a', ho, e1, e2, ro⟩ := s'.ob _ _ en
              rw [ea] at e1; cases e1
              cases ro with
              | @lst _ vs rs =>
                refine p v H' (m'.take S.length) (s'.take _) (pv'.take s) ?_
                show Rp _ _ _ _
                unfold Rp
                refine ⟨a, vs, ev, .inl e2, fun l => ?_, ?_⟩
                · rcases l with ⟨i, o, h1, h2⟩ | x
                  · rw [List.getElem?_take] at h1 h2
                    split at h1
                    · rename_i hi
                      rw [if_pos hi] at h2
                      have := s'.inj i n a o _ h1 en h2 ea
                      omega
                    · cases h1
                  · exact (s'.ext a x).2 ⟨n, _, en, ea⟩
                · exact Rps.mono (fun a u nl e => ⟨e, fun l => nl (l.elim (fun l => .inl (live_take l)) .inr)⟩) _ _ (allDat_ok ed rs)
          · exact p.elim
/-- a def keeps its promise -/
theorem def_keeps {x qual : Str} {params : Arguments} {dvs : List V} {kws : List (Str × V)} {f : Addr} {fd : FuncData} (d : Def) (F : FunD K x qual params d.body d.scope dvs kws f fd) (sc : FnScope d.N d.params d.scope) (g : GOk P w K mg base k G call) :
    FnG P w K mg base (k + 1) f fd d.params (spF K mg (callD G call d)) := by
  have hlen : ∀ (vs : List V) (H : Hp) (Q : VK) (E : XK), spF K mg (callD G call d) vs H Q E → vs.length = d.params.length := by
    rintro vs H Q E ⟨Xx, m, S, ws, s, r, p⟩
    rw [← rws_len r]
    by_cases h : ws.length = d.params.length
    · exact h
    · exfalso
      unfold callD at p
      rw [decide_eq_false h] at p
      exact p
  refine ⟨hlen, fun A outer s H args us vs Q E room gd env0 bind rel hsp => ?_⟩
  have hl := hlen vs H Q E hsp
  obtain ⟨oc, od, dV, kV, doc, pm, an, cdv, ct, osl, efd, lk, hcd, _, _⟩ := F.ex
  subst efd
  have inK : K.In s.heap := env0.mod.kin.keeps fun b ob e => (env0.bs b ob e).1
  have nolim : s.heap.NoLimit := env0.mod.nolimit.keeps fun b ob e => (env0.bs b ob e).1
  have kinds : ∀ q ∈ d.params.zip us, d.scope.names.lookup q.1 = some .local ∨ (d.scope.names.lookup q.1 = some .cell ∧ ((cellsFrom (s.heap.objs.size + 1) d.scope.names []).lookup q.1).isSome = true) := by
    rintro ⟨n, u⟩ hq
    rcases sc.par n (List.of_mem_zip hq).1 with z | z
    · exact .inl z
    · exact .inr ⟨z, PySem.W.cellsFrom_some _ _ _ (.inl z)⟩
  refine codeAny_call_function room.depth (inK _ _ lk) rfl sc.co sc.gen rfl (PySem.W.codeRec_of inK hcd) (bind _ _ _ _ ?_)
  refine wpAny_newFunctionEnv_cells sc.kind kinds fun env henv s1 ent => ?_
  subst henv
  refine ⟨nolim.keeps ent.toInCall.keep, codeAny_func ?_⟩
  have start0 : Inv (cxOf (L2.CX P w) P w K mg base d.N qual d.scope f cdv A outer s H E) [] (L2.start d.N vs) H s1 := inv_start sc room.hd env0 hl rel ent
  obtain ⟨Xx, m, S, ws, sm, rw0, pp⟩ := hsp
  have hws : ws.length = d.params.length := by rw [rws_len rw0]; exact hl
  have tk : Takes (cxOf (L2.CX P w) P w K mg base d.N qual d.scope f cdv A outer s H E) (fun cls e _ H' => E cls e H') := takes_of rfl rfl rfl rfl
  have cok : Sok (cxOf (L2.CX P w) P w K mg base d.N qual d.scope f cdv A outer s H E) ⟨G, d.N, d.scope, d.live⟩ (fun cls e _ H' => E cls e H') k call :=
    { N := rfl, sc := fun x kd h => .inl h, nd := sc.nd, calm := rfl, room := room.deeper _, grd := gd, pass := fun σ => passAt tk σ, cel := fun _ _ => rfl, g := g, stk := rfl, frm := rfl, kind := sc.kind, tk := tk, own := passes_of rfl }
  have body := (run_ok (k := k) (call := call) deep).2.2.1 _ _ _ cok d.body
  unfold callD at pp
  rw [decide_eq_true hws] at pp
  have ends := body.run [] s1 (L2.start d.N vs) H { nx := fun _ H' => Q .non H', rt := Q } start0 ⟨Xx, _, m, S, sm, rg_start d.N rw0, finish_ok sm pp⟩
  refine wpAny_mono ends (fun fl s' q => ?_) fun e s' q => q
  cases fl with
  | next =>
    obtain ⟨σ', H', J, z⟩ := q
    exact ⟨V.non, H', J.os, J.bare, J.base, J.hok, rfl, z⟩
  | ret u =>
    obtain ⟨v, σ', H', J, rv, z⟩ := q
    exact ⟨v, H', J.os, J.bare, J.base, J.hok, rv, z⟩
  | brk =>
    obtain ⟨_, _, _, z⟩ := q
    exact False.elim z
  | cont =>
    obtain ⟨_, _, _, z⟩ := q
    exact False.elim z
end
end Mp
end

section
set_option Elab.async false
set_option linter.all false
set_option maxRecDepth 100000
set_option maxHeartbeats 400000
set_option autoImplicit false
/-! Mp27: a program; a law's end. -/
namespace Mp
open PySem PySem.Spec L2
/-- what is known of a def's name -/
structure DefAt (K : PySem.W.Frag) (mg : Str → Option Value) (ds : List Def) (x : Str) (d : Def) (f : Addr) (fd : FuncData) : Prop where
  there : ds.find? (fun d => decide (d.name = x)) = some d
  glo : mg x = some (.ref f)
  fun_ : ∃ qual params dvs kws, FunD K x qual params d.body d.scope dvs kws f fd
  bnds : Binds K fd d.params []
  scp : FnScope d.N d.params d.scope
structure POk (K : PySem.W.Frag) (mg : Str → Option Value) (G : Glob) (ds : List Def) : Prop where
  cst : ∀ (x : Str) (d : PyData), G.val x = some (.cst d) → ∃ v u, mg x = some u ∧ RelV v u ∧ Rk K d v
  blt : ∀ (x : Str), G.val x = some .blt → mg x = none
  fn : ∀ (x : Str), G.val x = some .fn → ∃ d f fd, DefAt K mg ds x d f fd
  kw : ∀ (x y : Str), G.kw x y = true → ∃ d f fd, DefAt K mg ds x d f fd ∧ d.params = [y] ∧ KBinds K fd [y] [y] (fun us ws => us ++ ws) (fun vs zs => vs ++ zs)
  exc : ∀ (x : Str), G.val x = some .exc → ∃ C B newId initId bm, ExK K mg x C B newId initId bm
  sub : ∀ (x y : Str) (b : Bool), G.sub x y = some b → ∃ C D : Addr, mg x = some (.ref C) ∧ mg y = some (.ref D) ∧ PySem.W.exmOne K (.ref C) (.ref D) = some b
section
variable {P : Program} {w : World} {K : PySem.W.Frag} {mg : Str → Option Value} {base : Heap} {G : Glob} {ds : List Def}
theorem calls_at {n : Nat} {x : Str} {d : Def} (h : ds.find? (fun d => decide (d.name = x)) = some d) : calls G ds (n + 1) x = callD G (calls G ds n) d := by
  funext ws
  simp only [calls, h]
/-- calls so deep keep their promises -/
theorem gok (p : POk K mg G ds) : ∀ n : Nat, GOk P w K mg base n G (calls G ds n)
  | 0 => by
    have none' : ∀ (x : Str) (vs : List V) (H : Hp) (Q : VK) (E : XK), ¬ spF K mg (calls G ds 0 x) vs H Q E := fun x vs H Q E h => by
      obtain ⟨Xx, m, S, ws, s, r, q⟩ := h
      exact q
    refine ⟨p.cst, p.blt, fun x hx => ?_, fun x y hx => ?_, p.exc, p.sub⟩
    · obtain ⟨d, f, fd, D⟩ := p.fn x hx
      obtain ⟨_, _, _, _, F⟩ := D.fun_
      exact ⟨f, fd, d.params, D.glo, F.kp, D.bnds, fun vs H Q E h => (none' x vs H Q E h).elim, fun A outer s H args us vs Q E _ _ _ _ _ h => (none' x vs H Q E h).elim⟩
    · obtain ⟨d, f, fd, D, _, kb⟩ := p.kw x y hx
      obtain ⟨_, _, _, _, F⟩ := D.fun_
      exact ⟨f, fd, D.glo, F.kp, kb, fun vs H Q E h => (none' x vs H Q E h).elim, fun A outer s H args us vs Q E _ _ _ _ _ h => (none' x vs H Q E h).elim⟩
  | n + 1 => by
    have ih := gok p n
    refine ⟨p.cst, p.blt, fun x hx => ?_, fun x y hx => ?_, p.exc, p.sub⟩
    · obtain ⟨d, f, fd, D⟩ := p.fn x hx
      obtain ⟨_, _, _, _, F⟩ := D.fun_
      refine ⟨f, fd, d.params, D.glo, F.kp, D.bnds, ?_⟩
      rw [calls_at D.there]
      exact def_keeps d F D.scp ih
    · obtain ⟨d, f, fd, D, ep, kb⟩ := p.kw x y hx
      obtain ⟨_, _, _, _, F⟩ := D.fun_
      refine ⟨f, fd, D.glo, F.kp, kb, ?_⟩
      rw [calls_at D.there, ← ep]
      exact def_keeps d F D.scp ih
end
/-! ### the script -/
def scriptD (ns : List Int) : PyData := .list (ns.map PyData.int)
theorem rps_ints {L : Addr → Prop} {H : Hp} : ∀ ns : List Int, Rps L H (ns.map PyData.int) (ns.map V.int)
  | [] => by unfold Rps; rfl
  | n :: ns => by
    show Rps L H (.int n :: ns.map PyData.int) (.int n :: ns.map V.int)
    unfold Rps
    exact ⟨_, _, rfl, by unfold Rp; rfl, rps_ints ns⟩
theorem rks_ints {K : PySem.W.Frag} : ∀ ns : List Int, Rks K (ns.map PyData.int) (ns.map V.int)
  | [] => by unfold Rks; rfl
  | n :: ns => by
    show Rks K (.int n :: ns.map PyData.int) (.int n :: ns.map V.int)
    unfold Rks
    exact ⟨_, _, rfl, by unfold Rk; rfl, rks_ints ns⟩
theorem sim_none (K : PySem.W.Frag) (H : Hp) : Sim K (fun _ => False) [] [] H where
  len := rfl
  inj := fun i j a oi oj h => by simp at h
  ob := fun n o h => by simp at h
  low := fun n o h => by simp at h
  ext := fun a x => x.elim
/-- the law's value by the interpreter -/
def Trues (r : Res W) : Prop := match r with
  | .ok w _ => w = .dat (.bool true)
  | _ => False
theorem law_sp {K : PySem.W.Frag} {mg : Str → Option Value} {f : List W → M W} {ns : List Int} (h1 : Trues (f [.dat (scriptD ns)] [])) (h2 : Trues (f [.con (scriptD ns)] [])) {H : Hp} {a : Addr} (hS : SqL K H a (ns.map V.int)) :
    spF K mg f [.ref a] H (fun v _ => v = .bl true) (fun _ _ _ => False) := by
  have fin : ∀ w : W, Trues (f [w] []) → Rw K (fun _ => False) [] [] H w (.ref a) → spF K mg f [.ref a] H (fun v _ => v = .bl true) (fun _ _ _ => False) := fun w ht r => by
    refine ⟨fun _ => False, [], [], [w], sim_none K H, .cons r .nil, ?_⟩
    cases e : f [w] [] with
    | ok u S =>
      rw [e] at ht
      have ht : u = .dat (.bool true) := ht
      subst ht
      exact fun v H' m' s pv r => rp_bool r
    | exc x S => rw [e] at ht; exact ht.elim
    | stuck => rw [e] at ht; exact ht.elim
  rcases hS with h | h
  · refine fin _ h1 ?_
    show Rp _ _ _ _
    unfold scriptD Rp
    exact ⟨a, _, rfl, h, fun l => l.elim (fun ⟨n, o, e, _⟩ => by simp at e) id, rps_ints ns⟩
  · refine fin _ h2 ?_
    show Rk _ _ _
    unfold scriptD Rk
    exact ⟨a, _, rfl, fun H => .inr h, rks_ints ns⟩
end Mp
namespace Mp
open PySem PySem.Spec PyProof.Rows L2
section
variable {P : Program} {w : World} {K : PySem.W.Frag} {mg mb : Str → Option Value} {k : Nat} {fa a : Addr} {fd : FuncData} {x : Str} {sp : Sp} {s₁ : Shared} {vs : List Value} {ns : List Int}
/-- what the claim wants of a run -/
abbrev Claimed (s₁ : Shared) (r : Result) (s' : Shared) : Prop := r = .ok (.ret (.bool true)) ∧ OldK s₁.heap s'.heap ∧ s'.os = s₁.os ∧ AllBare s'.gens
/-- from one abstract heap: the script is all that may be tracked -/
theorem law_from (H : Hp) (KX : K.In s₁.heap) (hns : s₁.heap.Ns mainGlobals mg) (hb : s₁.heap.Ns builtinsNs mb) (hbb : ∀ x : Str, x ≠ "__name__" → mb x = bootBuiltins x) (hlim : s₁.heap.NoLimit) (hg : s₁.gens = #[])
    (ha : s₁.heap.get? a = some { cls := .type "list", data := .seq vs.toArray }) (hr : Room k callerA) (F : ∀ base : Heap, K.In base → base.Ns mainGlobals mg → FnG P w K mg base k fa fd [x] sp)
    (hbind : ∀ (s : Shared) (u : Value), BindsTo s fd ⟨[u], []⟩ [(x, u)]) (only : Only H) (hsp : sp [.ref a] H (fun v _ => v = .bl true) fun _ _ _ => False) (hok : HOk P w H s₁.heap) (at_ : ∀ b, H b ≠ none → b = a) (nK : H a ≠ none → K.lookup a = none) :
    codeAny (model P w) callerA (.call (.ref fa) ⟨[.ref a], []⟩) (Claimed s₁) s₁ := by
  have some_at : ∀ {b : Addr} {u : HO}, H b = some u → b = a := fun {b u} e => at_ b fun z => by
    rw [e] at z
    cases z
  have keep : ∀ {b : Addr} {o : Obj}, s₁.heap.get? b = some o → H b = none → (hidT s₁.heap H).get? b = some o := fun e n => hidT_get e n
  have dicts : ∀ {b : Addr} {o : Obj} {es : Array DictEntry} {ep : Nat}, s₁.heap.get? b = some o → o.data = .dict es ep → H b = none := by
    intro b o es ep e d
    cases q : H b with
    | none => rfl
    | some u =>
      have eb := some_at q
      rw [eb, ha] at e
      cases e
      exact nomatch (show Data.seq vs.toArray _ = Data.dict es ep from d)
  have spaces : ∀ {b : Addr} {m : Str → Option Value}, s₁.heap.Ns b m → (hidT s₁.heap H).Ns b m := by
    rintro b m ⟨o, es, ep, e, d, r⟩
    exact ⟨o, es, ep, keep e (dicts e d), d, r⟩
  have inB : K.In (hidT s₁.heap H) := by
    intro b o e
    refine keep (KX b o e) ?_
    cases q : H b with
    | none => rfl
    | some u =>
      have eb := some_at q
      have := nK (by rw [← eb, q]; exact fun z => nomatch z)
      rw [eb, this] at e
      cases e
  have md : Mod K mg (hidT s₁.heap H) := by
    obtain ⟨mc, l1, l2⟩ := hlim
    exact ⟨inB, spaces hns, ⟨mb, spaces hb, hbb⟩, ⟨mc, spaces l1, l2⟩⟩
  have env0 : Env0 P w K mg (hidT s₁.heap H) callerA [] s₁ H :=
    ⟨rfl, md, fun b o e => of_hidT e, Nat.le_of_eq (hidT_size _ _), trivial, fun b hb => absurd (show b ∈ ([] : List Addr) from hb) (by simp), hok, .of_eq hg⟩
  have ran := (F (hidT s₁.heap H) inB (spaces hns)).go callerA [] s₁ H ⟨[.ref a], []⟩ [.ref a] [.ref a] _ _ hr rfl env0 (hbind s₁ (.ref a)) (.cons rfl .nil) hsp
  refine codeAny_mono ran fun res s' q => ?_
  rcases res with err | fl
  · obtain ⟨_, _, _, _, _, _, _, _, _, _, _, _, no⟩ := q
    exact no.elim
  · cases fl with
    | next => exact False.elim q
    | brk => exact False.elim q
    | cont => exact False.elim q
    | ret u =>
      obtain ⟨v, H', os, bare, un, hok', rv, ev⟩ := q
      have ev : v = .bl true := ev
      subst ev
      have eu : u = Value.bool true := rv
      subst eu
      refine ⟨rfl, OldK.of_keep fun b o e => ?_, os, bare⟩
      cases hq : H b with
      | none => exact un.keep b o e hq (fun z => nomatch (show b ∈ ([] : List Addr) from z)) (by simp)
      | some t =>
        rcases only b with z | ⟨ob, xs, z⟩
        · rw [hq] at z
          cases z
        · have before := (hok b _ z).1
          have behind := (hok' b _ (un.frzs b ob _ z)).1
          rw [e] at before
          cases before
          exact behind
def scriptH (a : Addr) (o : Obj) (xs : List V) : Hp := fun b => if b = a then some (.frz o (.lst xs)) else none
/-- the law's def is called by the claim -/
theorem law_runs (KX : K.In s₁.heap) (hns : s₁.heap.Ns mainGlobals mg) (hb : s₁.heap.Ns builtinsNs mb) (hbb : ∀ x : Str, x ≠ "__name__" → mb x = bootBuiltins x) (hlim : s₁.heap.NoLimit) (hg : s₁.gens = #[])
    (ha : s₁.heap.get? a = some { cls := .type "list", data := .seq vs.toArray }) (hi : IntsAre vs ns) (hl : ns.length ≤ sizeLine) (hr : Room k callerA)
    (F : ∀ base : Heap, K.In base → base.Ns mainGlobals mg → FnG P w K mg base k fa fd [x] sp) (hbind : ∀ (s : Shared) (u : Value), BindsTo s fd ⟨[u], []⟩ [(x, u)])
    (hsp : ∀ H : Hp, SqL K H a (ns.map V.int) → sp [.ref a] H (fun v _ => v = .bl true) fun _ _ _ => False) : codeAny (model P w) callerA (.call (.ref fa) ⟨[.ref a], []⟩) (Claimed s₁) s₁ := by
  have rv := vals_ints hi
  have lv := hi.length
  cases hk : K.lookup a with
  | some o =>
    have e := KX a o hk
    rw [ha] at e
    cases e
    have hS : SqL K (fun _ => none) a (ns.map V.int) := .inr ⟨_, vs.toArray, _, hk, rfl, rfl, rfl, by rw [List.size_toArray, lv]; exact hl, by simpa using rv⟩
    exact law_from (fun _ => none) KX hns hb hbb hlim hg ha hr F hbind (fun _ => .inl rfl) (hsp _ hS) (fun b u z => nomatch (show (none : Option HO) = some u from z)) (fun b z => absurd rfl z) fun z => absurd rfl z
  | none =>
    have e1 : ∀ b : Addr, b = a → scriptH a { cls := .type "list", data := .seq vs.toArray } (ns.map V.int) b = some (.frz { cls := .type "list", data := .seq vs.toArray } (.lst (ns.map V.int))) := fun b h => if_pos h
    have e2 : ∀ b : Addr, b ≠ a → scriptH a { cls := .type "list", data := .seq vs.toArray } (ns.map V.int) b = none := fun b h => if_neg h
    refine law_from (scriptH a { cls := .type "list", data := .seq vs.toArray } (ns.map V.int)) KX hns hb hbb hlim hg ha hr F hbind (fun b => ?_) (hsp _ (.inl (.inr ⟨_, e1 a rfl⟩))) (fun b u z => ?_) (fun b z => ?_) fun _ => hk
    · by_cases h : b = a
      · exact .inr ⟨_, _, e1 b h⟩
      · exact .inl (e2 b h)
    · by_cases h : b = a
      · have q := (e1 b h).symm.trans z
        cases q
        subst h
        exact ⟨ha, by rw [List.length_map]; exact hl, vs, _, rv, ha⟩
      · have q := (e2 b h).symm.trans z
        cases q
    · by_cases h : b = a
      · exact h
      · exact absurd (e2 b h) z
end
/-- the end of a law, over a head by facts -/
theorem law_walks {l : PySem.W.OpenLaw} {n k : Nat} {q : Program} {loose : List Str} {XP : (Str → Option Value) → Heap → Prop} {YP : World → Heap → Prop} {d : DefRec} {x : Str}
    (hn : l.most = some n) (hn2 : n ≤ sizeLine) (hdf : d.params.defaults = []) (hr : Room k callerA)
    (F : ∀ (w : World) (mg : Str → Option Value) (fa : Addr) (h : Heap), YP w h → h.Ns mainGlobals mg → mg d.name = some (.ref fa) →
      ∃ (K : PySem.W.Frag) (fd : FuncData) (sp : Sp), K.In h ∧ (∀ (s : Shared) (u : Value), BindsTo s fd ⟨[u], []⟩ [(x, u)]) ∧
        (∀ (H : Hp) (a : Addr) (ns : List Int), ns.length ≤ n → SqL K H a (ns.map V.int) → sp [.ref a] H (fun v _ => v = .bl true) fun _ _ _ => False) ∧
        ∀ base : Heap, K.In base → base.Ns mainGlobals mg → FnG l.prog w K mg base k fa fd [x] sp) :
    PySem.W.WalkO q loose XP YP l.row.toRowW d [] (fun f vs => PySem.call f vs) := by
  refine Att.attach_call hn hdf fun w s₀ s₁ mg mb fa o pm cd doc a vs ns G Y ho hd hcd hmg hobj hints hlen hg => ?_
  obtain ⟨K, fd, sp, KX, hb, hsp, hF⟩ := F w mg fa _ Y G.T.g hmg
  exact law_runs KX G.T.g G.T.b G.T.builtins G.T.nolimit hg hobj hints (Nat.le_trans hlen hn2) hr hF hb fun H hS => hsp H a ns hlen hS
end Mp
end

section
set_option linter.all false
set_option maxRecDepth 100000
set_option maxHeartbeats 400000
set_option autoImplicit false
/-! K29a: the judged acceptors' defs. -/
namespace K29
open PySem PySem.Spec L2 Mp
def top (i : Nat) : Stmt := PySem.Challenge.pw_termsonwires_k29_judged_acceptors.main.body.getD i (.Pass ⟨0, 0, 0, 0⟩)
/-- the defs, read off the text of the row -/
abbrev s_lively : Stmt := top 5
def d_lively : Def := ⟨"lively", ["steps", "kinds"], defBody s_lively, defScope s_lively, ["steps", "kinds", "before", "state", "goals", "found", "waiting", "goal", "kind"], [(7, 13), (7, 14), (11, 12), (12, 14)]⟩
abbrev s_refined : Stmt := top 6
def d_refined : Def := ⟨"refined", ["steps", "marks"], defBody s_refined, defScope s_refined, ["steps", "marks", "numbers", "mark", "classes", "many", "keys", "key", "state", "goals"], []⟩
abbrev s_met : Stmt := top 7
def d_met : Def := ⟨"met", ["steps", "classes", "first"], defBody s_met, defScope s_met, ["steps", "classes", "first", "known", "found", "index", "goal"], [(36, 12)]⟩
abbrev s_is_met_in_order : Stmt := top 8
def d_is_met_in_order : Def := ⟨"is_met_in_order", ["steps"], defBody s_is_met_in_order, defScope s_is_met_in_order, ["steps"], []⟩
abbrev s_is_integer : Stmt := top 14
def d_is_integer : Def := ⟨"is_integer", ["value"], defBody s_is_integer, defScope s_is_integer, ["value"], []⟩
abbrev s_is_between : Stmt := top 15
def d_is_between : Def := ⟨"is_between", ["low", "value", "high"], defBody s_is_between, defScope s_is_between, ["low", "value", "high"], []⟩
abbrev s_is_index_of : Stmt := top 16
def d_is_index_of : Def := ⟨"is_index_of", ["many", "value"], defBody s_is_index_of, defScope s_is_index_of, ["many", "value"], []⟩
abbrev s_is_bits : Stmt := top 17
def d_is_bits : Def := ⟨"is_bits", ["value"], defBody s_is_bits, defScope s_is_bits, ["value", "sign"], []⟩
abbrev s_is_tuple_of : Stmt := top 18
def d_is_tuple_of : Def := ⟨"is_tuple_of", ["many", "value"], defBody s_is_tuple_of, defScope s_is_tuple_of, ["many", "value"], []⟩
abbrev s_check_bits : Stmt := top 19
def d_check_bits : Def := ⟨"check_bits", ["value"], defBody s_check_bits, defScope s_check_bits, ["value"], []⟩
abbrev s_are_kinds_right : Stmt := top 21
def d_are_kinds_right : Def := ⟨"are_kinds_right", ["steps", "kinds"], defBody s_are_kinds_right, defScope s_are_kinds_right, ["steps", "kinds", "lives", "goals", "kind", "live", "goal"], []⟩
abbrev s_is_least : Stmt := top 22
def d_is_least : Def := ⟨"is_least", ["value"], defBody s_is_least, defScope s_is_least, ["value", "row", "steps", "kinds", "zero", "one", "kind"], []⟩
abbrev s_check_acceptor : Stmt := top 23
def d_check_acceptor : Def := ⟨"check_acceptor", ["value"], defBody s_check_acceptor, defScope s_check_acceptor, ["value"], []⟩
abbrev s_read_answer : Stmt := top 24
def d_read_answer : Def := ⟨"read_answer", ["acceptor", "bits"], defBody s_read_answer, defScope s_read_answer, ["acceptor", "bits", "state", "index"], []⟩
abbrev s_acceptor_read : Stmt := top 25
def d_acceptor_read : Def := ⟨"acceptor_read", ["acceptor", "bits"], defBody s_acceptor_read, defScope s_acceptor_read, ["acceptor", "bits"], []⟩
abbrev s_law_drops : Stmt := top 27
def d__law_drops : Def := ⟨"_law_drops", ["_law_cell", "_law_many"], defBody s_law_drops, defScope s_law_drops, ["_law_cell", "_law_many", "_law_drawn", "_law_digits", "_law_stir", "_law_turn"], [(108, 17)]⟩
abbrev s_law_take : Stmt := top 28
def d__law_take : Def := ⟨"_law_take", ["_law_bag", "_law_many"], defBody s_law_take, defScope s_law_take, ["_law_bag", "_law_many", "_law_here"], []⟩
abbrev s_law_same : Stmt := top 29
def d__law_same : Def := ⟨"_law_same", ["_law_found", "_law_due"], defBody s_law_same, defScope s_law_same, ["_law_found", "_law_due"], []⟩
abbrev s_law_says : Stmt := top 30
def d__law_says : Def := ⟨"_law_says", ["_law_found", "_law_due"], defBody s_law_says, defScope s_law_says, ["_law_found", "_law_due"], []⟩
abbrev s_law_formed : Stmt := top 31
def d__law_formed : Def := ⟨"_law_formed", ["_law_value"], defBody s_law_formed, defScope s_law_formed, ["_law_value", "_law_row", "_law_goal"], []⟩
abbrev s_law_classes : Stmt := top 32
def d__law_classes : Def := ⟨"_law_classes", ["_law_steps", "_law_marks"], defBody s_law_classes, defScope s_law_classes, ["_law_steps", "_law_marks", "_law_groups", "_law_turn", "_law_first_with", "_law_state", "_law_mark", "_law_finer", "_law_goals"], []⟩
abbrev s_law_least : Stmt := top 33
def d__law_least : Def := ⟨"_law_least", ["_law_rows_here", "_law_start"], defBody s_law_least, defScope s_law_least, ["_law_rows_here", "_law_start", "_law_alive", "_law_turn", "_law_end", "_law_kinds", "_law_steps", "_law_groups", "_law_order", "_law_numbers_here", "_law_more", "_law_goal", "_law_row", "_law_k", "_law_state"], [(162, 17)]⟩
abbrev s_law_rows : Stmt := top 34
def d__law_rows : Def := ⟨"_law_rows", ["_law_bag", "_law_most"], defBody s_law_rows, defScope s_law_rows, ["_law_bag", "_law_most", "_law_many", "_law_full", "_law_rows_here", "_law_state", "_law_goals", "_law_bit", "_law_way", "_law_goal"], [(173, 21), (175, 21)]⟩
abbrev s_law_judge : Stmt := top 35
def d__law_judge : Def := ⟨"_law_judge", ["_law_value"], defBody s_law_judge, defScope s_law_judge, ["_law_value"], []⟩
abbrev s_law_exchanged : Stmt := top 36
def d__law_exchanged : Def := ⟨"_law_exchanged", ["_law_rows_here", "_law_one", "_law_other"], defBody s_law_exchanged, defScope s_law_exchanged, ["_law_rows_here", "_law_one", "_law_other", "_law_turned", "_law_k"], [(189, 18), (189, 23), (189, 29)]⟩
abbrev s_law_bent_rows : Stmt := top 37
def d__law_bent_rows : Def := ⟨"_law_bent_rows", ["_law_bag", "_law_rows_here"], defBody s_law_bent_rows, defScope s_law_bent_rows, ["_law_bag", "_law_rows_here", "_law_many", "_law_one", "_law_zero", "_law_second", "_law_kind", "_law_way", "_law_twin", "_law_other_kind", "_law_k", "_law_row"], []⟩
abbrev s_law_odd : Stmt := top 38
def d__law_odd : Def := ⟨"_law_odd", ["_law_bag", "_law_rows_here"], defBody s_law_odd, defScope s_law_odd, ["_law_bag", "_law_rows_here", "_law_one", "_law_zero", "_law_second", "_law_kind", "_law_some", "_law_odd_here", "_law_bad"], []⟩
abbrev s_law_refused : Stmt := top 39
def d__law_refused : Def := ⟨"_law_refused", ["_law_value"], defBody s_law_refused, defScope s_law_refused, ["_law_value", "_law_found"], []⟩
abbrev s_law_right : Stmt := top 40
def d__law_right : Def := ⟨"_law_right", ["_law_value"], defBody s_law_right, defScope s_law_right, ["_law_value", "_law_due", "_law_kept"], []⟩
abbrev s_law : Stmt := top 41
def d_law : Def := ⟨"law", ["_law_script"], defBody s_law, defScope s_law, ["_law_script", "_law_cell", "_law_bag", "_law_rows_here", "_law_least_here", "_law_some", "_law_turn", "_law_value"], [(241, 19), (245, 20)]⟩
def ds : List Def := [d_lively, d_refined, d_met, d_is_met_in_order, d_is_integer, d_is_between, d_is_index_of, d_is_bits, d_is_tuple_of, d_check_bits, d_are_kinds_right, d_is_least, d_check_acceptor, d_read_answer, d_acceptor_read, d__law_drops, d__law_take, d__law_same, d__law_says, d__law_formed, d__law_classes, d__law_least, d__law_rows, d__law_judge, d__law_exchanged, d__law_bent_rows, d__law_odd, d__law_refused, d__law_right, d_law]
def csts : List (Str × PyData) := [("WHOLE", .str "whole"), ("DEAD", .str "dead"), ("OPEN", .str "open"), ("KINDS", .tuple [.str "open", .str "whole", .str "dead"])]
def excs : List Str := ["InvalidBits", "InvalidAcceptor"]
def blts : List Str := ["len", "int", "abs", "list", "tuple", "all", "any", "repr", "isinstance", "range", "enumerate", "zip", "set", "bool", "str"]
def val (x : Str) : Option GV := match csts.lookup x with
  | some d => some (.cst d)
  | none => if ds.any (fun d => decide (d.name = x)) = true then some .fn else if excs.contains x = true then some .exc else if blts.contains x = true then some .blt else none
def sub (x y : Str) : Option Bool := if x = "InvalidAcceptor" ∧ y = "InvalidAcceptor" then some true else if x = "InvalidBits" ∧ y = "InvalidAcceptor" then some false else none
def G : Glob := ⟨val, sub, fun f x => decide (f = "is_least" ∧ x = "value")⟩
end K29
end

section
set_option Elab.async false
set_option linter.all false
set_option maxRecDepth 100000
set_option maxHeartbeats 400000
set_option autoImplicit false
/-! Wp: the interpreter's steps as combinators, and what must hold ahead of them. -/
namespace Mp.Q
open PySem L2
def getS (g : Slots) (i : Nat) : M W := match g[i]? with
  | some (some w) => ret w
  | _ => halt
def seqM (m : M Fl) (k : Slots → M Fl) : M Fl := bnd m fun f => match f with
  | .nx g' => k g'
  | f => ret f
def evsM : List (M W) → M (List W)
  | [] => ret []
  | m :: ms => bnd m fun w => bnd (evsM ms) fun ws => ret (w :: ws)
def tupM (ms : List (M W)) : M W := bnd (evsM ms) fun ws => bnd (gives ws) fun xs => if roomy xs.length = true then ret (.dat (.tuple xs)) else halt
def listM (live : Bool) (ms : List (M W)) : M W := bnd (evsM ms) fun ws => if roomy ws.length = true then newList live ws else halt
def negM (x : W) : M W := match asInt x with
  | some i => ret (.dat (.int (-i)))
  | none => halt
def boolVM (op : BoolOp) : List (M W) → M W
  | [] => halt
  | [m] => m
  | m :: r => bnd m fun x => bnd (truth x) fun k => match op, k with
    | .And, true => boolVM op r
    | .And, false => ret x
    | .Or, true => ret x
    | .Or, false => boolVM op r
def optM (m : M W) : M (Option Int) := bnd m fun w => match asInt w with
  | some i => ret (some i)
  | none => halt
def dispM (k v : M W) : M W := bnd (alloc (.dk [])) fun p => bnd k fun x => bnd v fun y => match p, x with
  | .obj n, .dat d => match keyOf d with
    | some key => bnd (inside n y) fun y => fun S => match S[n]? with
      | some (some (.dk [])) => .ok (.obj n) (S.set n (some (.dk [(key, y)])))
      | _ => .stuck
    | none => halt
  | _, _ => halt
def isiM (t : Str) (x : W) : M W := fun S => match typeName S x with
  | some n => match isInst n t with
    | some b => .ok (.dat (.bool b)) S
    | none => .stuck
  | none => .stuck
def andM : List (M Bool) → M Bool
  | [] => halt
  | [m] => m
  | m :: r => bnd m fun k => match k with
    | true => andM r
    | false => ret false
def orM : List (M Bool) → M Bool
  | [] => halt
  | [m] => m
  | m :: r => bnd m fun k => match k with
    | true => ret true
    | false => orM r
def asBoolM (x : W) : M Bool := match asBool x with
  | some b => ret b
  | none => halt
def augM (g : Slots) (i : Nat) (m : M W) (op : Operator) : M Fl := match g[i]? with
  | some (some v) => bndE g m fun w => augW op g i v w
  | _ => halt
def tryM (G : Glob) (x : Str) (suite : Slots → Fl) (f : Fl) : M Fl := match f with
  | .xc e g' => match G.sub e.cls x with
    | some true => ofO (some (suite g'))
    | some false => ret (.xc e g')
    | none => halt
  | f => ret f
def asgIx : List Nat → List W → Slots → M Slots
  | [], [], g => ret g
  | i :: is, w :: ws, g => asgIx is ws (g.set i (some w))
  | _, _, _ => halt
def asgTup (is : List Nat) (w : W) (g : Slots) : M Slots := fun S => match seqOf S w with
  | some (false, ws) => if is.length = ws.length then asgIx is ws g S else .stuck
  | _ => .stuck
def nameIx (c : Cfg) : Expr → Option Nat
  | .Name x _ => storeAt c x
  | _ => none
theorem asgNames_ix {c : Cfg} : ∀ (es : List Expr) (is : List Nat) (ws : List W) (g : Slots), es.map (nameIx c) = is.map some → asgNames c es ws g = asgIx is ws g
  | [], [], ws, g, _ => by cases ws <;> rfl
  | [], i :: is, ws, g, h => by simp at h
  | e :: es, [], ws, g, h => by simp at h
  | e :: es, i :: is, [], g, h => by cases e <;> rfl
  | e :: es, i :: is, w :: ws, g, h => by
    simp only [List.map_cons, List.cons.injEq] at h
    have ih := asgNames_ix es is ws (g.set i (some w)) h.2
    cases e with
    | Name x p =>
      have h1 : storeAt c x = some i := h.1
      unfold asgNames
      simp only [h1]
      exact ih
    | _ => cases h.1
theorem asg_tupI {c : Cfg} {es : List Expr} {k : Nat} {p : Pos} {is : List Nat} (h : es.map (nameIx c) = is.map some) : asg c (.Tuple es k p) = asgTup is := by
  have hl : es.length = is.length := by
    have := congrArg List.length h
    simpa using this
  funext w g S
  show (match seqOf S w with
    | some (false, ws) => if es.length = ws.length then asgNames c es ws g S else .stuck
    | _ => .stuck) = (match seqOf S w with
    | some (false, ws) => if is.length = ws.length then asgIx is ws g S else .stuck
    | _ => .stuck)
  rw [hl]
  cases seqOf S w with
  | none => rfl
  | some q =>
    obtain ⟨b, ws⟩ := q
    cases b with
    | true => rfl
    | false =>
      show (if is.length = ws.length then asgNames c es ws g S else Res.stuck) = _
      rw [asgNames_ix es is ws g h]
end Mp.Q
end

section
set_option Elab.async false
set_option linter.all false
set_option maxRecDepth 100000
set_option maxHeartbeats 400000
set_option autoImplicit false
/-! WpR: what must hold ahead of a step. -/
namespace Mp.Q
open PySem L2
@[irreducible] def wp {α : Type} (m : M α) (S : Store) (Q : α → Store → Prop) (E : Xc → Store → Prop) : Prop := match m S with
  | .ok a S' => Q a S'
  | .exc x S' => E x S'
  | .stuck => False
def noE : Xc → Store → Prop := fun _ _ => False
section
variable {α β : Type} {S S' : Store} {Q : α → Store → Prop} {E : Xc → Store → Prop}
theorem wp_of {m : M α} {a : α} (h : m S = .ok a S') (q : Q a S') : wp m S Q E := by unfold wp; rw [h]; exact q
theorem wp_exc {m : M α} {x : Xc} (h : m S = .exc x S') (q : E x S') : wp m S Q E := by unfold wp; rw [h]; exact q
theorem wp_ret {a : α} (q : Q a S) : wp (ret a) S Q E := by unfold wp; exact q
theorem wp_mono {m : M α} {Q' : α → Store → Prop} {E' : Xc → Store → Prop} (h : wp m S Q E) (k : ∀ a S, Q a S → Q' a S) (e : ∀ x S, E x S → E' x S) : wp m S Q' E' := by
  unfold wp at *
  cases h' : m S with
  | ok a S1 => rw [h'] at h; exact k _ _ h
  | exc x S1 => rw [h'] at h; exact e _ _ h
  | stuck => rw [h'] at h; exact h
theorem wp_bnd {m : M β} {f : β → M α} (h : wp m S (fun a S' => wp (f a) S' Q E) E) : wp (bnd m f) S Q E := by
  unfold wp at h ⊢
  unfold bnd
  cases e : m S with
  | ok a S1 => rw [e] at h; exact h
  | exc x S1 => rw [e] at h; exact h
  | stuck => rw [e] at h; exact h
theorem eq_of_wp {m : M α} {a : α} (h : wp m S (fun b S1 => b = a ∧ S1 = S') noE) : m S = .ok a S' := by
  unfold wp at h
  cases e : m S with
  | ok b S1 => rw [e] at h; obtain ⟨rfl, rfl⟩ := h; rfl
  | exc x S1 => rw [e] at h; exact h.elim
  | stuck => rw [e] at h; exact h.elim
theorem ex_of_wp {m : M α} (h : wp m S Q noE) : ∃ a S', m S = .ok a S' ∧ Q a S' := by
  unfold wp at h
  cases e : m S with
  | ok b S1 => rw [e] at h; exact ⟨b, S1, rfl, h⟩
  | exc x S1 => rw [e] at h; exact h.elim
  | stuck => rw [e] at h; exact h.elim
theorem wp_cond {b : Bool} {x y : M α} (h1 : b = true → wp x S Q E) (h2 : b = false → wp y S Q E) : wp (cond b x y) S Q E := by
  cases b
  · exact h2 rfl
  · exact h1 rfl
theorem wp_condT {b : Bool} {x y : M α} (h : b = true) (q : wp x S Q E) : wp (cond b x y) S Q E := by subst h; exact q
theorem wp_condF {b : Bool} {x y : M α} (h : b = false) (q : wp y S Q E) : wp (cond b x y) S Q E := by subst h; exact q
theorem wp_ite {p : Prop} [Decidable p] {x y : M α} (h : p) (q : wp x S Q E) : wp (if p then x else y) S Q E := by rw [if_pos h]; exact q
end
section
variable {S S' : Store} {E : Xc → Store → Prop} {g : Slots}
theorem wp_bndE {α : Type} {Q : Fl → Store → Prop} {m : M α} {f : α → M Fl} (h : wp m S (fun a S' => wp (f a) S' Q E) (fun x S' => Q (.xc x g) S')) : wp (bndE g m f) S Q E := by
  unfold wp at h ⊢
  unfold bndE
  cases e : m S with
  | ok a S1 => rw [e] at h; exact h
  | exc x S1 => rw [e] at h; exact h
  | stuck => rw [e] at h; exact h
/-- how a statement's end goes on -/
@[irreducible] def seqQ (k : Slots → M Fl) (Q : Fl → Store → Prop) (E : Xc → Store → Prop) : Fl → Store → Prop
  | .nx g', S' => wp (k g') S' Q E
  | f, S' => Q f S'
theorem wp_seq {Q : Fl → Store → Prop} {m : M Fl} {k : Slots → M Fl} (h : wp m S (seqQ k Q E) E) : wp (seqM m k) S Q E := by
  refine wp_bnd (wp_mono h (fun f S1 q => ?_) fun _ _ q => q)
  unfold seqQ at q
  cases f <;> first | exact q | exact wp_ret q
section
variable {E2 : Xc → Store → Prop} {Q : Fl → Store → Prop} {k : Slots → M Fl} {w : W} {x : Xc}
theorem wp_nxS (h : wp (k g) S Q E) : wp (ret (.nx g)) S (seqQ k Q E) E2 := by refine wp_ret ?_; unfold seqQ; exact h
theorem wp_of_ret {α : Type} {Q : α → Store → Prop} {a : α} (h : wp (ret a) S Q E) : Q a S := by unfold wp at h; exact h
theorem wp_rtS (h : wp (ret (.rt w)) S Q E) : wp (ret (.rt w)) S (seqQ k Q E) E2 := by refine wp_ret ?_; unfold seqQ; exact wp_of_ret h
theorem wp_bkS (h : wp (ret (.bk g)) S Q E) : wp (ret (.bk g)) S (seqQ k Q E) E2 := by refine wp_ret ?_; unfold seqQ; exact wp_of_ret h
theorem wp_ctS (h : wp (ret (.ct g)) S Q E) : wp (ret (.ct g)) S (seqQ k Q E) E2 := by refine wp_ret ?_; unfold seqQ; exact wp_of_ret h
theorem wp_xcS (h : wp (ret (.xc x g)) S Q E) : wp (ret (.xc x g)) S (seqQ k Q E) E2 := by refine wp_ret ?_; unfold seqQ; exact wp_of_ret h
end
theorem wp_getS {Q : W → Store → Prop} {i : Nat} {w : W} (h : g[i]? = some (some w)) (q : Q w S) : wp (getS g i) S Q E := by
  unfold getS
  rw [h]
  exact wp_ret q
theorem wp_evs_nil {Q : List W → Store → Prop} (q : Q [] S) : wp (evsM []) S Q E := wp_ret q
theorem wp_evs_cons {Q : List W → Store → Prop} {m : M W} {ms : List (M W)} (h : wp m S (fun w S' => wp (evsM ms) S' (fun ws S2 => Q (w :: ws) S2) E) E) : wp (evsM (m :: ms)) S Q E :=
  wp_bnd (wp_mono h (fun w S1 q => wp_bnd (wp_mono q (fun ws S2 q => wp_ret q) fun _ _ q => q)) fun _ _ q => q)
theorem gives_dat : ∀ {ws : List W} {xs : List PyData} {S : Store}, allDat ws = some xs → gives ws S = .ok xs S
  | [], xs, S, h => by cases h; rfl
  | .dat x :: r, xs, S, h => by
    have h : (allDat r).map (x :: ·) = some xs := h
    cases e : allDat r with
    | none => rw [e] at h; cases h
    | some ys =>
      rw [e] at h
      cases h
      have ih := gives_dat (S := S) e
      show bnd (gives r) (fun xs => ret (x :: xs)) S = _
      unfold bnd
      rw [ih]
      rfl
  | .con x :: r, xs, S, h => by cases h
  | .obj x :: r, xs, S, h => by cases h
theorem wp_tup {Q : W → Store → Prop} {ms : List (M W)} (h : wp (evsM ms) S (fun ws S' => ∃ xs, allDat ws = some xs ∧ xs.length ≤ 1000000 ∧ Q (.dat (.tuple xs)) S') E) : wp (tupM ms) S Q E := by
  refine wp_bnd (wp_mono h (fun ws S1 q => ?_) fun _ _ q => q)
  obtain ⟨xs, h1, h2, h3⟩ := q
  refine wp_bnd (wp_of (gives_dat h1) ?_)
  rw [if_pos (show roomy xs.length = true from decide_eq_true h2)]
  exact wp_ret h3
theorem wp_listD {Q : W → Store → Prop} {ms : List (M W)} (h : wp (evsM ms) S (fun ws S' => ∃ xs, allDat ws = some xs ∧ ws.length ≤ 1000000 ∧ Q (.dat (.list xs)) S') E) : wp (listM false ms) S Q E := by
  refine wp_bnd (wp_mono h (fun ws S1 q => ?_) fun _ _ q => q)
  obtain ⟨xs, h1, h2, h3⟩ := q
  rw [if_pos (show roomy ws.length = true from decide_eq_true h2)]
  unfold newList
  simp only [h1]
  exact wp_ret h3
theorem wp_listL {Q : W → Store → Prop} {ms : List (M W)} (h : wp (evsM ms) S (fun ws S' => ws.length ≤ 1000000 ∧ (Ob.lst ws).below S'.length = true ∧ Q (.obj S'.length) (S' ++ [some (.lst ws)])) E) : wp (listM true ms) S Q E := by
  refine wp_bnd (wp_mono h (fun ws S1 q => ?_) fun _ _ q => q)
  obtain ⟨h1, h2, h3⟩ := q
  rw [if_pos (show roomy ws.length = true from decide_eq_true h1)]
  show wp (alloc (.lst ws)) S1 Q E
  refine wp_of (a := W.obj S1.length) (S' := S1 ++ [some (.lst ws)]) ?_ h3
  unfold alloc
  rw [if_pos h2]
theorem wp_alloc {Q : W → Store → Prop} {o : Ob} (h : o.below S.length = true) (q : Q (.obj S.length) (S ++ [some o])) : wp (alloc o) S Q E := by
  refine wp_of (a := W.obj S.length) (S' := S ++ [some o]) ?_ q
  unfold alloc
  rw [if_pos h]
theorem wp_and1 {Q : Bool → Store → Prop} {m : M Bool} (h : wp m S Q E) : wp (andM [m]) S Q E := h
theorem wp_and {Q : Bool → Store → Prop} {m m2 : M Bool} {r : List (M Bool)} (h : wp m S (fun k S' => wp (cond k (andM (m2 :: r)) (ret false)) S' Q E) E) : wp (andM (m :: m2 :: r)) S Q E :=
  wp_bnd (wp_mono h (fun k S1 q => by cases k <;> exact q) fun _ _ q => q)
theorem wp_or1 {Q : Bool → Store → Prop} {m : M Bool} (h : wp m S Q E) : wp (orM [m]) S Q E := h
theorem wp_or {Q : Bool → Store → Prop} {m m2 : M Bool} {r : List (M Bool)} (h : wp m S (fun k S' => wp (cond k (ret true) (orM (m2 :: r))) S' Q E) E) : wp (orM (m :: m2 :: r)) S Q E :=
  wp_bnd (wp_mono h (fun k S1 q => by cases k <;> exact q) fun _ _ q => q)
theorem wp_boolV1 {op : BoolOp} {Q : W → Store → Prop} {m : M W} (h : wp m S Q E) : wp (boolVM op [m]) S Q E := h
theorem wp_boolA {Q : W → Store → Prop} {m m2 : M W} {r : List (M W)} (h : wp m S (fun x S' => wp (truth x) S' (fun k S2 => wp (cond k (boolVM .And (m2 :: r)) (ret x)) S2 Q E) E) E) : wp (boolVM .And (m :: m2 :: r)) S Q E :=
  wp_bnd (wp_mono h (fun x S1 q => wp_bnd (wp_mono q (fun k S2 q => by cases k <;> exact q) fun _ _ q => q)) fun _ _ q => q)
theorem wp_boolO {Q : W → Store → Prop} {m m2 : M W} {r : List (M W)} (h : wp m S (fun x S' => wp (truth x) S' (fun k S2 => wp (cond k (ret x) (boolVM .Or (m2 :: r))) S2 Q E) E) E) : wp (boolVM .Or (m :: m2 :: r)) S Q E :=
  wp_bnd (wp_mono h (fun x S1 q => wp_bnd (wp_mono q (fun k S2 q => by cases k <;> exact q) fun _ _ q => q)) fun _ _ q => q)
@[irreducible] def optQ (Q : Option Int → Store → Prop) (w : W) (S : Store) : Prop := ∃ i, asInt w = some i ∧ Q (some i) S
theorem wp_opt {Q : Option Int → Store → Prop} {m : M W} (h : wp m S (optQ Q) E) : wp (optM m) S Q E :=
  wp_bnd (wp_mono h (fun w S1 q => by unfold optQ at q; obtain ⟨i, h1, h2⟩ := q; rw [h1]; exact wp_ret h2) fun _ _ q => q)
theorem optQ_int {Q : Option Int → Store → Prop} {i : Int} (h : Q (some i) S) : optQ Q (.dat (.int i)) S := by unfold optQ; exact ⟨i, rfl, h⟩
theorem wp_bin {Q : W → Store → Prop} {l : Bool} {op : Operator} {x y w : W} (h : binOp l op x y S = .ok w S') (q : Q w S') : wp (binOp l op x y) S Q E := wp_of h q
theorem wp_cmp {Q : Bool → Store → Prop} {op : CmpOp} {x y : W} {b : Bool} (h : cmpOp op x y S = .ok b S') (q : Q b S') : wp (cmpOp op x y) S Q E := wp_of h q
theorem wp_item {Q : W → Store → Prop} {x y w : W} (h : itemOf x y S = .ok w S') (q : Q w S') : wp (itemOf x y) S Q E := wp_of h q
theorem wp_slice {Q : W → Store → Prop} {l : Bool} {x w : W} {a b : Option Int} (h : sliceOf l x a b S = .ok w S') (q : Q w S') : wp (sliceOf l x a b) S Q E := wp_of h q
theorem wp_truth {Q : Bool → Store → Prop} {x : W} {b : Bool} (h : truth x S = .ok b S') (q : Q b S') : wp (truth x) S Q E := wp_of h q
theorem wp_asBool {Q : Bool → Store → Prop} {x : W} {b : Bool} (h : asBoolM x S = .ok b S') (q : Q b S') : wp (asBoolM x) S Q E := wp_of h q
theorem wp_isi {Q : W → Store → Prop} {t : Str} {x w : W} (h : isiM t x S = .ok w S') (q : Q w S') : wp (isiM t x) S Q E := wp_of h q
theorem wp_neg {Q : W → Store → Prop} {x w : W} (h : negM x S = .ok w S') (q : Q w S') : wp (negM x) S Q E := wp_of h q
theorem wp_blt {Q : W → Store → Prop} {l : Bool} {f : Str} {ws : List W} {w : W} (h : blt l f ws S = .ok w S') (q : Q w S') : wp (blt l f ws) S Q E := wp_of h q
theorem wp_recv {Q : Unit → Store → Prop} {f : Str} {x : W} (h : recv f x S = .ok () S') (q : Q () S') : wp (recv f x) S Q E := wp_of h q
theorem wp_method {Q : W → Store → Prop} {f : Str} {x w : W} {ws : List W} (h : method x f ws S = .ok w S') (q : Q w S') : wp (method x f ws) S Q E := wp_of h q
theorem wp_setItem {Q : Unit → Store → Prop} {x y v : W} (h : setItem x y v S = .ok () S') (q : Q () S') : wp (setItem x y v) S Q E := wp_of h q
theorem wp_range {Q : Wk → Store → Prop} {x : W} {r : Wk} (h : rangeM x S = .ok r S') (q : Q r S') : wp (rangeM x) S Q E := wp_of h q
theorem wp_range2 {Q : Wk → Store → Prop} {x y : W} {r : Wk} (h : range2M x y S = .ok r S') (q : Q r S') : wp (range2M x y) S Q E := wp_of h q
theorem wp_enum {Q : Wk → Store → Prop} {x : W} {r : Wk} (h : enumM x S = .ok r S') (q : Q r S') : wp (enumM x) S Q E := wp_of h q
theorem wp_zip {Q : Wk → Store → Prop} {x y : W} {r : Wk} (h : zipM x y S = .ok r S') (q : Q r S') : wp (zipM x y) S Q E := wp_of h q
theorem wp_zip3 {Q : Wk → Store → Prop} {x y z : W} {r : Wk} (h : zip3M x y z S = .ok r S') (q : Q r S') : wp (zip3M x y z) S Q E := wp_of h q
theorem wp_walkV {Q : Wk → Store → Prop} {x : W} {r : Wk} (h : walkV x S = .ok r S') (q : Q r S') : wp (walkV x) S Q E := wp_of h q
theorem wp_listRg {Q : W → Store → Prop} {l : Bool} {x w : W} (h : listRg l x S = .ok w S') (q : Q w S') : wp (listRg l x) S Q E := wp_of h q
theorem wp_lenSet {Q : W → Store → Prop} {x w : W} (h : lenSet x S = .ok w S') (q : Q w S') : wp (lenSet x) S Q E := wp_of h q
theorem wp_turned {Q : W → Store → Prop} {l : Bool} {x w : W} (h : turned l x S = .ok w S') (q : Q w S') : wp (turned l x) S Q E := wp_of h q
theorem wp_newList {Q : W → Store → Prop} {l : Bool} {ws : List W} {w : W} (h : newList l ws S = .ok w S') (q : Q w S') : wp (newList l ws) S Q E := wp_of h q
theorem wp_asgTup {Q : Slots → Store → Prop} {is : List Nat} {w : W} {g' : Slots} (h : asgTup is w g S = .ok g' S') (q : Q g' S') : wp (asgTup is w g) S Q E := wp_of h q
theorem wp_aug {Q : Fl → Store → Prop} {i : Nat} {a : Int} {m : M W} (h : g[i]? = some (some (.dat (.int a)))) (hm : wp m S (fun w S' => ∃ b, w = .dat (.int b) ∧ wp (ret (.nx (g.set i (some (.dat (.int (a + b))))))) S' Q E) (fun x S' => Q (.xc x g) S')) : wp (augM g i m .Add) S Q E := by
  unfold augM
  rw [h]
  refine wp_bndE (wp_mono hm (fun w S1 q => ?_) fun _ _ q => q)
  obtain ⟨b, rfl, q⟩ := q
  exact q
end
/-! ### loops -/
section
variable {S : Store} {E : Xc → Store → Prop}
/-- how a body's end goes on -/
@[irreducible] def forQ (I : Slots → Store → Prop) (Q : Fl → Store → Prop) : Fl → Store → Prop
  | .nx g, S => I g S
  | .ct g, S => I g S
  | .bk g, S => Q (.nx g) S
  | .rt w, S => Q (.rt w) S
  | .xc x g, S => Q (.xc x g) S
section
variable {E2 : Xc → Store → Prop} {I : Slots → Store → Prop} {Q : Fl → Store → Prop} {w : W} {x : Xc} {g : Slots}
theorem wp_nxF (h : I g S) : wp (ret (.nx g)) S (forQ I Q) E2 := by refine wp_ret ?_; unfold forQ; exact h
theorem wp_ctF (h : I g S) : wp (ret (.ct g)) S (forQ I Q) E2 := by refine wp_ret ?_; unfold forQ; exact h
theorem wp_bkF (h : wp (ret (.nx g)) S Q E2) : wp (ret (.bk g)) S (forQ I Q) E2 := by refine wp_ret ?_; unfold forQ; exact wp_of_ret h
theorem wp_rtF (h : wp (ret (.rt w)) S Q E2) : wp (ret (.rt w)) S (forQ I Q) E2 := by refine wp_ret ?_; unfold forQ; exact wp_of_ret h
theorem wp_xcF (h : wp (ret (.xc x g)) S Q E2) : wp (ret (.xc x g)) S (forQ I Q) E2 := by refine wp_ret ?_; unfold forQ; exact wp_of_ret h
end
/-- a loop over items that stand -/
theorem wp_for {a : W → Slots → M Slots} {b : Slots → M Fl} {ws : List W} {Q : Fl → Store → Prop} (I : Nat → Slots → Store → Prop)
    (step : ∀ (i : Nat) (w : W) (g : Slots) (S : Store), ws[i]? = some w → I i g S → wp (a w g) S (fun g1 S1 => wp (b g1) S1 (forQ (I (i + 1)) Q) E) E)
    (done : ∀ g S, I ws.length g S → wp (ret (.nx g)) S Q E) :
    ∀ (n i : Nat) (g : Slots) (S : Store), ws.length < i + n → i ≤ ws.length → I i g S → wp (forW a b (.list ws) n i g) S Q E
  | 0, i, g, S, h1, h2, _ => absurd h1 (by omega)
  | n + 1, i, g, S, h1, h2, hI => by
    unfold forW
    by_cases hl : i < ws.length
    · have e : ws[i]? = some ws[i] := List.getElem?_eq_getElem hl
      refine wp_bnd (wp_of (a := some ws[i]) (S' := S) (by show Res.ok ws[i]? S = _; rw [e]) ?_)
      refine wp_bnd (wp_mono (step i _ g S e hI) (fun g1 S1 q => ?_) fun _ _ q => q)
      refine wp_bnd (wp_mono q (fun f S2 q => ?_) fun _ _ q => q)
      unfold forQ at q
      cases f with
      | nx g' => exact wp_for I step done n (i + 1) g' S2 (by omega) hl q
      | ct g' => exact wp_for I step done n (i + 1) g' S2 (by omega) hl q
      | bk g' => exact wp_ret q
      | rt w => exact wp_ret q
      | xc x g' => exact wp_ret q
    · have ei : i = ws.length := by omega
      subst ei
      have e : ws[ws.length]? = none := List.getElem?_eq_none (Nat.le_refl _)
      refine wp_bnd (wp_of (a := none) (S' := S) (by show Res.ok ws[ws.length]? S = _; rw [e]) ?_)
      exact done g S hI
/-- a loop over a live list that stays as it is -/
theorem wp_forO {a : W → Slots → M Slots} {b : Slots → M Fl} {k : Nat} {ws : List W} {Q : Fl → Store → Prop} (I : Nat → Slots → Store → Prop)
    (stay : ∀ i g S, I i g S → S[k]? = some (some (.lst ws)))
    (step : ∀ (i : Nat) (w : W) (g : Slots) (S : Store), ws[i]? = some w → I i g S → wp (a w g) S (fun g1 S1 => wp (b g1) S1 (forQ (I (i + 1)) Q) E) E)
    (done : ∀ g S, I ws.length g S → wp (ret (.nx g)) S Q E) :
    ∀ (n i : Nat) (g : Slots) (S : Store), ws.length < i + n → i ≤ ws.length → I i g S → wp (forW a b (.obj k) n i g) S Q E
  | 0, i, g, S, h1, h2, _ => absurd h1 (by omega)
  | n + 1, i, g, S, h1, h2, hI => by
    unfold forW
    have hs := stay i g S hI
    by_cases hl : i < ws.length
    · have e : ws[i]? = some ws[i] := List.getElem?_eq_getElem hl
      refine wp_bnd (wp_of (a := some ws[i]) (S' := S) (by simp only [nextW, hs, e]) ?_)
      refine wp_bnd (wp_mono (step i _ g S e hI) (fun g1 S1 q => ?_) fun _ _ q => q)
      refine wp_bnd (wp_mono q (fun f S2 q => ?_) fun _ _ q => q)
      unfold forQ at q
      cases f with
      | nx g' => exact wp_forO I stay step done n (i + 1) g' S2 (by omega) hl q
      | ct g' => exact wp_forO I stay step done n (i + 1) g' S2 (by omega) hl q
      | bk g' => exact wp_ret q
      | rt w => exact wp_ret q
      | xc x g' => exact wp_ret q
    · have ei : i = ws.length := by omega
      subst ei
      have e : ws[ws.length]? = none := List.getElem?_eq_none (Nat.le_refl _)
      refine wp_bnd (wp_of (a := none) (S' := S) (by simp only [nextW, hs, e]) ?_)
      exact done g S hI
/-- a comprehension over items that stand: what it makes, item by item -/
theorem wp_comp {t : Slots → M Bool} {e : Slots → M W} {a : W → M Slots} {ws : List W} {Q : List W → Store → Prop} (I : Nat → List W → Store → Prop)
    (step : ∀ (i : Nat) (w : W) (acc : List W) (S : Store), ws[i]? = some w → I i acc S →
      wp (a w) S (fun g S1 => wp (t g) S1 (fun k S2 => (k = true → wp (e g) S2 (fun y S3 => I (i + 1) (acc ++ [y]) S3) noE) ∧ (k = false → I (i + 1) acc S2)) noE) E)
    (done : ∀ acc S, I ws.length acc S → Q acc S) :
    ∀ (n i : Nat) (acc : List W) (S : Store), ws.length < i + n → i ≤ ws.length → I i acc S → wp (compW t e a (.list ws) n i acc) S Q E
  | 0, i, acc, S, h1, h2, _ => absurd h1 (by omega)
  | n + 1, i, acc, S, h1, h2, hI => by
    unfold compW
    by_cases hl : i < ws.length
    · have e1 : ws[i]? = some ws[i] := List.getElem?_eq_getElem hl
      refine wp_bnd (wp_of (a := some ws[i]) (S' := S) (by show Res.ok ws[i]? S = _; rw [e1]) ?_)
      refine wp_bnd (wp_mono (step i _ acc S e1 hI) (fun g S1 q => ?_) fun _ _ q => q)
      obtain ⟨k, S2, q1, q2⟩ := ex_of_wp q
      refine wp_bnd (wp_of (a := k) (S' := S2) (by unfold noX; rw [q1]) ?_)
      cases k with
      | true =>
        obtain ⟨y, S3, q3, q4⟩ := ex_of_wp (q2.1 rfl)
        refine wp_bnd (wp_of (a := y) (S' := S3) (by unfold noX; rw [q3]) ?_)
        exact wp_comp I step done n (i + 1) _ S3 (by omega) hl q4
      | false => exact wp_comp I step done n (i + 1) _ S2 (by omega) hl (q2.2 rfl)
    · have ei : i = ws.length := by omega
      subst ei
      have e1 : ws[ws.length]? = none := List.getElem?_eq_none (Nat.le_refl _)
      refine wp_bnd (wp_of (a := none) (S' := S) (by show Res.ok ws[ws.length]? S = _; rw [e1]) ?_)
      exact wp_ret (done acc S hI)
/-- a while loop: an invariant and a measure -/
theorem wp_while {t : Slots → M Bool} {b : Slots → M Fl} {Q : Fl → Store → Prop} (I : Nat → Slots → Store → Prop)
    (step : ∀ (k : Nat) (g : Slots) (S : Store), I k g S → wp (t g) S (fun c S1 => (c = true → wp (b g) S1 (forQ (fun g' S' => ∃ k', k' < k ∧ I k' g' S') Q) E) ∧ (c = false → wp (ret (.nx g)) S1 Q E)) (fun x S' => Q (.xc x g) S')) :
    ∀ (n k : Nat) (g : Slots) (S : Store), k < n → I k g S → wp (whileL t b n g) S Q E
  | 0, k, g, S, h, _ => absurd h (by omega)
  | n + 1, k, g, S, h, hI => by
    unfold whileL
    refine wp_bndE (wp_mono (step k g S hI) (fun c S1 q => ?_) fun _ _ q => q)
    cases c with
    | false => exact q.2 rfl
    | true =>
      refine wp_bnd (wp_mono (q.1 rfl) (fun f S2 q => ?_) fun _ _ q => q)
      unfold forQ at q
      cases f with
      | nx g' => obtain ⟨k', h1, h2⟩ := q; exact wp_while I step n k' g' S2 (by omega) h2
      | ct g' => obtain ⟨k', h1, h2⟩ := q; exact wp_while I step n k' g' S2 (by omega) h2
      | bk g' => exact wp_ret q
      | rt w => exact wp_ret q
      | xc x g' => exact wp_ret q
end
/-- a comprehension whose items make no difference to the store -/
theorem comp_pure {t : Slots → M Bool} {e : Slots → M W} {a : W → M Slots} {ws : List W} {S : Store} (g : W → Slots) (p : W → Bool) (f : W → W)
    (ha : ∀ w ∈ ws, a w S = .ok (g w) S) (ht : ∀ w ∈ ws, t (g w) S = .ok (p w) S) (he : ∀ w ∈ ws, p w = true → e (g w) S = .ok (f w) S) (hl : ws.length < walkFuel) :
    compW t e a (.list ws) walkFuel 0 [] S = .ok ((ws.filter p).map f) S := by
  refine eq_of_wp (wp_comp (fun i acc S' => acc = ((ws.take i).filter p).map f ∧ S' = S) ?_ ?_ walkFuel 0 [] S (by omega) (by omega) ⟨by simp, rfl⟩)
  · rintro i w acc S' hw ⟨rfl, rfl⟩
    have hm : w ∈ ws := List.mem_of_getElem? hw
    have et : ws.take (i + 1) = ws.take i ++ [w] := by rw [List.take_add_one, hw]; rfl
    refine wp_of (ha w hm) (wp_of (ht w hm) ⟨fun k => wp_of (he w hm k) ⟨?_, rfl⟩, fun k => ⟨?_, rfl⟩⟩)
    · rw [et]; simp [k]
    · rw [et]; simp [k]
  · rintro acc S' ⟨rfl, rfl⟩
    exact ⟨by rw [List.take_length], rfl⟩
end Mp.Q
end

section
set_option Elab.async false
set_option linter.all false
set_option maxRecDepth 100000
set_option maxHeartbeats 400000
set_option autoImplicit false
/-! WpC: a call of a def of the text. -/
namespace Mp.Q
open PySem L2
@[irreducible] def finQ (k : Nat) (Q : W → Store → Prop) (E : Xc → Store → Prop) : Fl → Store → Prop
  | .nx _, S => Q (.dat .none) (S.take k)
  | .rt (.dat x), S => Q (.dat x) (S.take k)
  | .rt (.con x), S => Q (.con x) (S.take k)
  | .rt (.obj n), S => (n < k ∧ Q (.obj n) (S.take k)) ∨ (¬ n < k ∧ ∃ ws ds, S[n]? = some (some (.lst ws)) ∧ allDat ws = some ds ∧ Q (.dat (.list ds)) (S.take k))
  | .xc x _, S => E x (S.take k)
  | _, _ => False
section
variable {S : Store} {k : Nat} {Q : W → Store → Prop} {E E2 : Xc → Store → Prop} {g : Slots} {x : PyData}
theorem wp_nxD (h : Q (.dat .none) (S.take k)) : wp (ret (.nx g)) S (finQ k Q E) E2 := by refine wp_ret ?_; unfold finQ; exact h
theorem wp_rtD (h : Q (.dat x) (S.take k)) : wp (ret (.rt (.dat x))) S (finQ k Q E) E2 := by refine wp_ret ?_; unfold finQ; exact h
theorem wp_rtC (h : Q (.con x) (S.take k)) : wp (ret (.rt (.con x))) S (finQ k Q E) E2 := by refine wp_ret ?_; unfold finQ; exact h
theorem wp_rtO {n : Nat} (h : (n < k ∧ Q (.obj n) (S.take k)) ∨ (¬ n < k ∧ ∃ ws ds, S[n]? = some (some (.lst ws)) ∧ allDat ws = some ds ∧ Q (.dat (.list ds)) (S.take k))) : wp (ret (.rt (.obj n))) S (finQ k Q E) E2 := by refine wp_ret ?_; unfold finQ; exact h
theorem wp_xcD {e : Xc} (h : E e (S.take k)) : wp (ret (.xc e g)) S (finQ k Q E) E2 := by refine wp_ret ?_; unfold finQ; exact h
end
theorem calls_def {G : Glob} {ds : List Def} {n : Nat} {x : Str} {d : Def} (h : ds.find? (fun d => decide (d.name = x)) = some d) : calls G ds (n + 1) x = callD G (calls G ds n) d := by
  funext args
  simp only [calls, h]
theorem wp_call {G : Glob} {ds : List Def} {n : Nat} {x : Str} {d : Def} {args : List W} {S : Store} {Q : W → Store → Prop} {E : Xc → Store → Prop} {p : (Str → List W → M W) → Slots → M Fl}
    (hd : ds.find? (fun d => decide (d.name = x)) = some d) (hl : args.length = d.params.length) (he : ∀ call g, (run call deep).blk ⟨G, d.N, d.scope, d.live⟩ g d.body = p call g)
    {g : Slots} (hg : args.map some ++ List.replicate (d.N.length - args.length) none = g)
    (h : wp (p (calls G ds n) g) S (finQ S.length Q E) noE) : wp (calls G ds (n + 1) x args) S Q E := by
  subst hg
  have key : calls G ds (n + 1) x args S = finish S.length ((run (calls G ds n) deep).blk ⟨G, d.N, d.scope, d.live⟩ (args.map some ++ List.replicate (d.N.length - args.length) none) d.body S) := by
    rw [calls_def hd]
    unfold callD
    rw [decide_eq_true hl]
  unfold wp at h ⊢
  rw [key, he]
  cases e : p (calls G ds n) (args.map some ++ List.replicate (d.N.length - args.length) none) S with
  | stuck => rw [e] at h; exact h.elim
  | exc x S1 => rw [e] at h; exact h.elim
  | ok f S1 =>
    rw [e] at h
    have h : finQ S.length Q E f S1 := h
    unfold finQ at h
    unfold finish
    cases f with
    | nx g => exact h
    | bk g => exact h.elim
    | ct g => exact h.elim
    | xc x g => exact h
    | rt w =>
      cases w with
      | dat x => exact h
      | con x => exact h
      | obj m =>
        rcases h with ⟨h1, h2⟩ | ⟨h1, ws, ds, h2, h3, h4⟩
        · simp only [decide_eq_true h1]
          exact h2
        · simp only [decide_eq_false h1, h2, h3]
          exact h4
end Mp.Q
end

section
set_option Elab.async false
set_option linter.all false
set_option maxRecDepth 100000
set_option maxHeartbeats 400000
set_option autoImplicit false
/-! Dat: the interpreter's steps on data of known shape. -/
namespace Mp.Q
open PySem L2
noncomputable instance decPy : DecidableEq PyData := fun _ _ => Classical.propDecidable _
/-- a number as data -/
abbrev nD (n : Nat) : PyData := .int (n : Int)
section
variable {S : Store} {ds es : List PyData} {d : PyData} {i j : Int} {k n : Nat} {ws : List W} {w : W} {live : Bool}
theorem atI_map {α β : Type} {f : α → β} {xs : List α} {i : Int} {x : α} (h0 : 0 ≤ i) (h : xs[i.toNat]? = some x) : L2.atI (xs.map f) i = some (f x) := by
  have hl := (List.getElem?_eq_some_iff.mp h).1
  unfold L2.atI L2.ixN
  rw [if_pos h0, if_pos (by rw [List.length_map]; omega)]
  show (xs.map f)[i.toNat]? = _
  rw [List.getElem?_map, h]
  rfl
theorem atI_at {α : Type} {xs : List α} {i : Int} {x : α} (h0 : 0 ≤ i) (h : xs[i.toNat]? = some x) : L2.atI xs i = some x := by
  have := atI_map (f := id) h0 h
  rwa [List.map_id] at this
theorem item_list (h0 : 0 ≤ i) (h : ds[i.toNat]? = some d) : itemOf (.dat (.list ds)) (.dat (.int i)) S = .ok (.dat d) S := by
  have e : itemOf (.dat (.list ds)) (.dat (.int i)) S = (match L2.atI (ds.map W.dat) i with
    | some v => Res.ok v S
    | none => .stuck) := rfl
  rw [e, atI_map h0 h]
theorem item_tup (h0 : 0 ≤ i) (h : ds[i.toNat]? = some d) : itemOf (.dat (.tuple ds)) (.dat (.int i)) S = .ok (.dat d) S := by
  have e : itemOf (.dat (.tuple ds)) (.dat (.int i)) S = (match L2.atI (ds.map W.dat) i with
    | some v => Res.ok v S
    | none => .stuck) := rfl
  rw [e, atI_map h0 h]
theorem item_listN (h : ds[n]? = some d) : itemOf (.dat (.list ds)) (.dat (.int (n : Nat))) S = .ok (.dat d) S := item_list (by omega) h
theorem item_tupN (h : ds[n]? = some d) : itemOf (.dat (.tuple ds)) (.dat (.int (n : Nat))) S = .ok (.dat d) S := item_tup (by omega) h
theorem live_obj {o : Ob} (h : S[k]? = some (some o)) : liveAt S (.obj k) = some (k, o) := by simp only [liveAt, h]
theorem seq_obj (h : S[k]? = some (some (.lst ws))) : seqOf S (.obj k) = some (true, ws) := by simp only [seqOf, h]
theorem item_obj (h : S[k]? = some (some (.lst ws))) (h0 : 0 ≤ i) (hw : ws[i.toNat]? = some w) : itemOf (.obj k) (.dat (.int i)) S = .ok w S := by
  have e : itemOf (.obj k) (.dat (.int i)) S = (match L2.atI ws i with
    | some v => Res.ok v S
    | none => .stuck) := by
    simp only [itemOf, live_obj h, isDict, asInt, seqOf, h] <;> rfl
  rw [e, atI_at h0 hw]
theorem item_objN (h : S[k]? = some (some (.lst ws))) (hw : ws[n]? = some w) : itemOf (.obj k) (.dat (.int (n : Nat))) S = .ok w S := item_obj h (by omega) hw
theorem len_list : blt live "len" [.dat (.list ds)] S = .ok (.dat (nD ds.length)) S := by
  have e : blt live "len" [.dat (.list ds)] S = .ok (.dat (.int ((ds.map W.dat).length : Nat))) S := rfl
  rw [e, List.length_map]
theorem len_tup : blt live "len" [.dat (.tuple ds)] S = .ok (.dat (nD ds.length)) S := by
  have e : blt live "len" [.dat (.tuple ds)] S = .ok (.dat (.int ((ds.map W.dat).length : Nat))) S := rfl
  rw [e, List.length_map]
theorem len_obj (h : S[k]? = some (some (.lst ws))) : blt live "len" [.obj k] S = .ok (.dat (nD ws.length)) S := by
  have e := seq_obj h
  unfold blt
  rw [if_pos rfl]
  simp only [e]
theorem allDat_map : ∀ ds : List PyData, allDat (ds.map W.dat) = some ds
  | [] => rfl
  | d :: ds => by
    show (allDat (ds.map W.dat)).map (d :: ·) = _
    rw [allDat_map ds]
    rfl
theorem newList_dat : newList false (ds.map W.dat) S = .ok (.dat (.list ds)) S := by
  unfold newList
  simp only [allDat_map]
  rfl
theorem newList_live (h : (Ob.lst ws).below S.length = true) : newList true ws S = .ok (.obj S.length) (S ++ [some (.lst ws)]) := by
  show alloc (.lst ws) S = _
  unfold alloc
  rw [if_pos h]
theorem below_map {n : Nat} : (Ob.lst (ds.map W.dat)).below n = true := by
  show (ds.map W.dat).all (W.below n) = true
  rw [List.all_map]
  exact List.all_eq_true.mpr fun x _ => rfl
theorem walk_list : walkV (.dat (.list ds)) S = .ok (.list (ds.map W.dat)) S := rfl
theorem walk_tup : walkV (.dat (.tuple ds)) S = .ok (.list (ds.map W.dat)) S := rfl
theorem walk_obj (h : S[k]? = some (some (.lst ws))) : walkV (.obj k) S = .ok (.obj k) S := by simp only [walkV, h]
theorem range_ok (h : n ≤ 1000000) : rangeM (.dat (nD n)) S = .ok (.list (rangeL 0 n)) S := by
  have r : rgOk (n : Int) = true := by
    unfold rgOk
    rw [decide_eq_true (show -(2 ^ 62) ≤ (n : Int) by omega), decide_eq_true (show (n : Int) < 2 ^ 62 by omega)]
    rfl
  simp only [rangeM, r, if_true, Int.toNat_natCast]
  rfl
theorem rangeL_eq : rangeL 0 n = (List.range n).map fun i => .dat (nD i) := by
  unfold rangeL
  refine List.map_congr_left fun i _ => ?_
  rw [Int.zero_add]
theorem listRg_ok (h : n ≤ 1000000) : listRg false (.dat (nD n)) S = .ok (.dat (.list ((List.range n).map nD))) S := by
  have r : rgOk (n : Int) = true := by
    unfold rgOk
    rw [decide_eq_true (show -(2 ^ 62) ≤ (n : Int) by omega), decide_eq_true (show (n : Int) < 2 ^ 62 by omega)]
    rfl
  have q : roomy (n : Int).toNat = true := by unfold roomy; rw [Int.toNat_natCast]; exact decide_eq_true h
  have e : listRg false (.dat (nD n)) = newList false (rangeL 0 (n : Int).toNat) := if_pos ⟨q, r⟩
  rw [e, Int.toNat_natCast]
  rw [rangeL_eq]
  have := newList_dat (S := S) (ds := (List.range n).map nD)
  rwa [List.map_map] at this
theorem enum_ok : enumM (.dat (.list ds)) S = .ok (.list (enumL 0 ds)) S := rfl
theorem enumL_get : ∀ (ds : List PyData) (k i : Nat), (enumL k ds)[i]? = (ds[i]?).map fun d => .dat (.tuple [nD (k + i), d])
  | [], k, i => by simp [enumL]
  | d :: ds, k, 0 => by simp [enumL]
  | d :: ds, k, i + 1 => by
    show (enumL (k + 1) ds)[i]? = _
    rw [enumL_get ds (k + 1) i, List.getElem?_cons_succ, show k + 1 + i = k + (i + 1) by omega]
theorem enumL_len : ∀ (ds : List PyData) (k : Nat), (enumL k ds).length = ds.length
  | [], k => rfl
  | d :: ds, k => by show (enumL (k + 1) ds).length + 1 = _; rw [enumL_len ds]; rfl
theorem zip3_ok {fs : List PyData} : zip3M (.dat (.list ds)) (.dat (.list es)) (.dat (.list fs)) S = .ok (.list (zip3L ds es fs)) S := rfl
theorem add_list (h : ds.length + es.length ≤ 1000000) : binOp false .Add (.dat (.list ds)) (.dat (.list es)) S = .ok (.dat (.list (ds ++ es))) S := by
  have e : binOp false .Add (.dat (.list ds)) (.dat (.list es)) S = (if roomy ((ds.map W.dat).length + (es.map W.dat).length) = true then newList false (ds.map W.dat ++ es.map W.dat) S else .stuck) := rfl
  rw [e, if_pos (by rw [List.length_map, List.length_map]; exact decide_eq_true h), ← List.map_append, newList_dat]
theorem eq_int : cmpOp .Eq (.dat (.int i)) (.dat (.int j)) S = .ok (decide (i = j)) S := by
  have e : cmpOp .Eq (.dat (.int i)) (.dat (.int j)) S = .ok (i == j) S := by
    show (if depthOk (.int i) = true ∧ depthOk (.int j) = true then Res.ok (PyData.eqv (.int i) (.int j)) S else .stuck) = _
    rw [if_pos ⟨rfl, rfl⟩]
    simp only [PyData.eqv]
  rw [e]
  by_cases h : i = j
  · subst h; simp
  · rw [decide_eq_false h, beq_false_of_ne h]
theorem ne_int : cmpOp .NotEq (.dat (.int i)) (.dat (.int j)) S = .ok (!decide (i = j)) S := by
  have e : cmpOp .NotEq (.dat (.int i)) (.dat (.int j)) S = .ok (!(i == j)) S := by
    show (if depthOk (.int i) = true ∧ depthOk (.int j) = true then Res.ok (!PyData.eqv (.int i) (.int j)) S else .stuck) = _
    rw [if_pos ⟨rfl, rfl⟩]
    simp only [PyData.eqv]
  rw [e]
  by_cases h : i = j
  · subst h; simp
  · rw [decide_eq_false h, beq_false_of_ne h]
theorem append_obj (h : S[k]? = some (some (.lst ws))) (hz : ws.length ≤ 1000000) : method (.obj k) "append" [.dat d] S = .ok (.dat .none) (S.set k (some (.lst (ws ++ [.dat d])))) := by
  have r : roomy ws.length = true := decide_eq_true hz
  unfold method
  simp only [live_obj h, r, if_true]
theorem recv_append (h : S[k]? = some (some (.lst ws))) : recv "append" (.obj k) S = .ok () S := by
  have m : mKind "append" = some true := rfl
  simp only [recv, m, seq_obj h]
theorem recv_pop (h : S[k]? = some (some (.lst ws))) : recv "pop" (.obj k) S = .ok () S := by
  have m : mKind "pop" = some true := rfl
  simp only [recv, m, seq_obj h]
theorem pop_obj (h : S[k]? = some (some (.lst (ws ++ [w])))) : method (.obj k) "pop" [] S = .ok w (S.set k (some (.lst ws))) := by
  have e : (ws ++ [w])[(ws ++ [w]).length - 1]? = some w := by simp
  unfold method
  simp only [live_obj h]
  rw [if_neg (by decide)]
  simp only [e, List.dropLast_concat, if_true]
theorem set_obj (h : S[k]? = some (some (.lst ws))) (h0 : 0 ≤ i) (hi : i < ws.length) : setItem (.obj k) (.dat (.int i)) (.dat d) S = .ok () (S.set k (some (.lst (ws.set i.toNat (.dat d))))) := by
  have e : L2.ixN ws.length i = some i.toNat := by
    unfold L2.ixN
    rw [if_pos h0, if_pos (by omega)]
  simp only [setItem, live_obj h, asInt, e, inside, ret, h]
end
section
variable {S : Store} {l : Bool} {i j : Int}
theorem bin_add : binOp l .Add (.dat (.int i)) (.dat (.int j)) S = .ok (.dat (.int (i + j))) S := rfl
theorem bin_sub : binOp l .Sub (.dat (.int i)) (.dat (.int j)) S = .ok (.dat (.int (i - j))) S := rfl
theorem bin_mod (h : j ≠ 0) : binOp l .Mod (.dat (.int i)) (.dat (.int j)) S = .ok (.dat (.int (i.fmod j))) S := by
  have e : intOp .Mod i j = some (i.fmod j) := if_pos h
  simp only [binOp, e]
theorem bin_fdiv (h : j ≠ 0) (h2 : j.natAbs < 1073741824) : binOp l .FloorDiv (.dat (.int i)) (.dat (.int j)) S = .ok (.dat (.int (i.fdiv j))) S := by
  have e : intOp .FloorDiv i j = some (i.fdiv j) := if_pos ⟨h, h2⟩
  simp only [binOp, e]
theorem bin_mul (h : mulOk i j = true) : binOp l .Mult (.dat (.int i)) (.dat (.int j)) S = .ok (.dat (.int (i * j))) S := by
  have e : intOp .Mult i j = some (i * j) := if_pos h
  simp only [binOp, e]
theorem bin_pow (h : 0 ≤ j ∧ j ≤ 1000000 ∧ i.natAbs < 2 ^ 64) : binOp l .Pow (.dat (.int i)) (.dat (.int j)) S = .ok (.dat (.int (i ^ j.toNat))) S := by
  have e : intOp .Pow i j = some (i ^ j.toNat) := if_pos h
  simp only [binOp, e]
end
theorem mulOk_l {i j : Int} (h0 : -(2 ^ 64) < i) (h1 : i < 2 ^ 64) : mulOk i j = true := by
  unfold mulOk
  rw [decide_eq_true h0, decide_eq_true h1]
  rfl
theorem mulOk_r {i j : Int} (h0 : -(2 ^ 64) < j) (h1 : j < 2 ^ 64) : mulOk i j = true := by
  unfold mulOk
  rw [decide_eq_true h0, decide_eq_true h1]
  simp
/-! ### the store's end -/
theorem get_last {S : Store} {o : Option Ob} : (S ++ [o])[S.length]? = some o := by simp
theorem set_last {S : Store} {o o' : Option Ob} : (S ++ [o]).set S.length o' = S ++ [o'] := by
  rw [List.set_append_right _ _ (Nat.le_refl _), Nat.sub_self]
  rfl
theorem take_app {S T : Store} : (S ++ T).take S.length = S := by simp
/-! ### equality of data -/
mutual
/-- no dicts, no bools, little depth -/
def plain : Nat → PyData → Bool
  | _, .none => true
  | _, .bool _ => false
  | _, .int _ => true
  | _, .str x => PyData.strOk x
  | 0, .list _ => false
  | 0, .tuple _ => false
  | n + 1, .list xs => plainAll n xs
  | n + 1, .tuple xs => plainAll n xs
  | _, .dict _ => false
def plainAll : Nat → List PyData → Bool
  | _, [] => true
  | n, x :: xs => plain n x && plainAll n xs
end
mutual
theorem eqv_plain : ∀ (n : Nat) (a b : PyData), plain n a = true → plain n b = true → (PyData.eqv a b = true ↔ a = b)
  | n, .none, b, _, hb => by cases b <;> simp [PyData.eqv]
  | n, .bool x, b, ha, _ => by simp [plain] at ha
  | n, .int i, b, _, hb => by
    cases b with
    | bool x => simp [plain] at hb
    | _ => simp [PyData.eqv]
  | n, .str x, b, _, hb => by cases b <;> simp [PyData.eqv]
  | 0, .list xs, b, ha, _ => by simp [plain] at ha
  | 0, .tuple xs, b, ha, _ => by simp [plain] at ha
  | n + 1, .list xs, b, ha, hb => by
    cases b with
    | list ys =>
      simp only [plain] at ha hb
      simp only [PyData.eqv, PyData.list.injEq]
      exact eqvAll_plain n xs ys ha hb
    | _ => simp [PyData.eqv]
  | n + 1, .tuple xs, b, ha, hb => by
    cases b with
    | tuple ys =>
      simp only [plain] at ha hb
      simp only [PyData.eqv, PyData.tuple.injEq]
      exact eqvAll_plain n xs ys ha hb
    | _ => simp [PyData.eqv]
  | n, .dict x, b, ha, _ => by simp [plain] at ha
theorem eqvAll_plain : ∀ (n : Nat) (xs ys : List PyData), plainAll n xs = true → plainAll n ys = true → (PyData.eqvAll xs ys = true ↔ xs = ys)
  | n, [], [], _, _ => by simp [PyData.eqvAll]
  | n, [], y :: ys, _, _ => by simp [PyData.eqvAll]
  | n, x :: xs, [], _, _ => by simp [PyData.eqvAll]
  | n, x :: xs, y :: ys, ha, hb => by
    simp only [plainAll, Bool.and_eq_true] at ha hb
    simp only [PyData.eqvAll, Bool.and_eq_true, List.cons.injEq]
    rw [eqv_plain n x y ha.1 hb.1, eqvAll_plain n xs ys ha.2 hb.2]
end
mutual
theorem plain_shape : ∀ (n : Nat) (a : PyData), plain n a = true → a.canLay0 = true ∧ a.depth ≤ n + 1
  | n, .none, _ => by simp [PyData.canLay0, PyData.depth]
  | n, .bool x, ha => by simp [plain] at ha
  | n, .int i, _ => by simp [PyData.canLay0, PyData.depth]
  | n, .str x, h => by simpa [PyData.canLay0, PyData.depth, plain] using h
  | 0, .list xs, ha => by simp [plain] at ha
  | 0, .tuple xs, ha => by simp [plain] at ha
  | n + 1, .list xs, ha => by
    simp only [plain] at ha
    have ⟨h1, h2⟩ := plainAll_shape n xs ha
    simp only [PyData.canLay0, PyData.depth]
    exact ⟨h1, by omega⟩
  | n + 1, .tuple xs, ha => by
    simp only [plain] at ha
    have ⟨h1, h2⟩ := plainAll_shape n xs ha
    simp only [PyData.canLay0, PyData.depth]
    exact ⟨h1, by omega⟩
  | n, .dict x, ha => by simp [plain] at ha
theorem plainAll_shape : ∀ (n : Nat) (xs : List PyData), plainAll n xs = true → PyData.canLayAll0 xs = true ∧ PyData.depthAll xs ≤ n + 1
  | n, [], _ => by simp [PyData.canLayAll0, PyData.depthAll]
  | n, x :: xs, ha => by
    simp only [plainAll, Bool.and_eq_true] at ha
    have ⟨h1, h2⟩ := plain_shape n x ha.1
    have ⟨h3, h4⟩ := plainAll_shape n xs ha.2
    simp only [PyData.canLayAll0, PyData.depthAll, h1, h3]
    exact ⟨rfl, by omega⟩
end
theorem depthOk_plain {n : Nat} {a : PyData} (h : plain n a = true) (hn : n ≤ 60) : depthOk a = true := by
  have ⟨h1, h2⟩ := plain_shape n a h
  unfold depthOk SeqAt.shaped
  rw [h1, decide_eq_true (by omega)]
  rfl
theorem eq_plain {n : Nat} {a b : PyData} {S : Store} (ha : plain n a = true) (hb : plain n b = true) (hn : n ≤ 60) [Decidable (a = b)] : cmpOp .Eq (.dat a) (.dat b) S = .ok (decide (a = b)) S := by
  have e : cmpOp .Eq (.dat a) (.dat b) S = (if depthOk a = true ∧ depthOk b = true then Res.ok (PyData.eqv a b) S else .stuck) := rfl
  rw [e, if_pos ⟨depthOk_plain ha hn, depthOk_plain hb hn⟩]
  by_cases h : a = b
  · rw [decide_eq_true h, (eqv_plain n a b ha hb).mpr h]
  · rw [decide_eq_false h]
    cases q : PyData.eqv a b with
    | false => rfl
    | true => exact absurd ((eqv_plain n a b ha hb).mp q) h
end Mp.Q
end

section
set_option Elab.async false
set_option linter.all false
set_option maxRecDepth 100000
set_option maxHeartbeats 400000
set_option autoImplicit false
/-! KM1: breadth-first order; plain. -/
namespace KM
def push (l : List Nat) (x : Nat) : List Nat := if x ∈ l then l else l ++ [x]
def stepB (f : Nat → Bool → Nat) (l : List Nat) (t : Nat) : List Nat := match l[t]? with
  | none => l
  | some i => push (push l (f i false)) (f i true)
def bfs (f : Nat → Bool → Nat) (s : Nat) : Nat → List Nat
  | 0 => [s]
  | t + 1 => stepB f (bfs f s t) t
theorem mem_push {l : List Nat} {x y : Nat} : y ∈ push l x ↔ y ∈ l ∨ y = x := by
  unfold push
  split
  · constructor
    · exact .inl
    · rintro (h | rfl) <;> assumption
  · simp
theorem push_pre (l : List Nat) (x : Nat) : ∃ r, push l x = l ++ r := by
  unfold push
  split
  · exact ⟨[], by simp⟩
  · exact ⟨[x], rfl⟩
theorem stepB_pre (f : Nat → Bool → Nat) (l : List Nat) (t : Nat) : ∃ r, stepB f l t = l ++ r := by
  unfold stepB
  split
  · exact ⟨[], by simp⟩
  · obtain ⟨r1, e1⟩ := push_pre l (f ‹_› false)
    obtain ⟨r2, e2⟩ := push_pre (push l (f ‹_› false)) (f ‹_› true)
    exact ⟨r1 ++ r2, by rw [e2, e1, List.append_assoc]⟩
theorem push_nodup {l : List Nat} {x : Nat} (h : l.Nodup) : (push l x).Nodup := by
  unfold push
  split
  · exact h
  · rename_i hx
    rw [List.nodup_append]
    exact ⟨h, by simp, fun a ha b hb => by simp at hb; subst hb; rintro rfl; exact hx ha⟩
theorem bfs_nodup (f : Nat → Bool → Nat) (s : Nat) : ∀ t, (bfs f s t).Nodup
  | 0 => by simp [bfs]
  | t + 1 => by
    unfold bfs stepB
    split
    · exact bfs_nodup f s t
    · exact push_nodup (push_nodup (bfs_nodup f s t))
theorem bfs_all {f : Nat → Bool → Nat} {s : Nat} {P : Nat → Prop} (h0 : P s) (hs : ∀ i b, P i → P (f i b)) : ∀ t x, x ∈ bfs f s t → P x
  | 0, x, h => by simp [bfs] at h; subst h; exact h0
  | t + 1, x, h => by
    unfold bfs stepB at h
    split at h
    · exact bfs_all h0 hs t x h
    · rename_i i e
      have hi : P i := bfs_all h0 hs t i (List.mem_of_getElem? e)
      rcases mem_push.mp h with h | rfl
      · rcases mem_push.mp h with h | rfl
        · exact bfs_all h0 hs t x h
        · exact hs _ _ hi
      · exact hs _ _ hi
theorem bfs_head (f : Nat → Bool → Nat) (s : Nat) : ∀ t, (bfs f s t)[0]? = some s
  | 0 => by simp [bfs]
  | t + 1 => by
    obtain ⟨r, e⟩ := stepB_pre f (bfs f s t) t
    have hl : 0 < (bfs f s t).length := by
      have := bfs_head f s t
      exact (List.getElem?_eq_some_iff.mp this).1
    show (stepB f (bfs f s t) t)[0]? = _
    rw [e, List.getElem?_append_left hl]
    exact bfs_head f s t
/-- what stands at a place whose turn has been has its goals in the list -/
theorem bfs_closed (f : Nat → Bool → Nat) (s : Nat) : ∀ t j x b, j < t → (bfs f s t)[j]? = some x → f x b ∈ bfs f s t
  | 0, j, x, b, h, _ => absurd h (by omega)
  | t + 1, j, x, b, h, e => by
    obtain ⟨r, er⟩ := stepB_pre f (bfs f s t) t
    by_cases hj : j < (bfs f s t).length
    · have e' : (bfs f s t)[j]? = some x := by
        have : (stepB f (bfs f s t) t)[j]? = some x := e
        rwa [er, List.getElem?_append_left hj] at this
      by_cases hjt : j < t
      · have := bfs_closed f s t j x b hjt e'
        show f x b ∈ stepB f (bfs f s t) t
        rw [er]
        exact List.mem_append_left _ this
      · have : j = t := by omega
        subst this
        show f x b ∈ stepB f (bfs f s j) j
        unfold stepB
        rw [e']
        cases b
        · exact mem_push.mpr (.inl (mem_push.mpr (.inr rfl)))
        · exact mem_push.mpr (.inr rfl)
    · have hn : (bfs f s t)[t]? = none := List.getElem?_eq_none (by omega)
      have : bfs f s (t + 1) = bfs f s t := by
        show stepB f (bfs f s t) t = _
        unfold stepB
        rw [hn]
      rw [this] at e
      have := (List.getElem?_eq_some_iff.mp e).1
      omega
theorem bfs_stable {f : Nat → Bool → Nat} {s t : Nat} (h : (bfs f s t).length ≤ t) : ∀ k, bfs f s (t + k) = bfs f s t
  | 0 => rfl
  | k + 1 => by
    have ih := bfs_stable h k
    show stepB f (bfs f s (t + k)) (t + k) = _
    rw [ih]
    unfold stepB
    rw [List.getElem?_eq_none (by omega)]
theorem bfs_eq {f : Nat → Bool → Nat} {s t u : Nat} (h : (bfs f s t).length ≤ t) (h' : (bfs f s u).length ≤ u) : bfs f s t = bfs f s u := by
  rcases Nat.le_total t u with q | q
  · obtain ⟨k, rfl⟩ := Nat.exists_eq_add_of_le q
    exact (bfs_stable h k).symm
  · obtain ⟨k, rfl⟩ := Nat.exists_eq_add_of_le q
    exact bfs_stable h' k
/-- an element behind the first has a parent ahead of it -/
theorem bfs_parent (f : Nat → Bool → Nat) (s : Nat) : ∀ t j x, 0 < j → (bfs f s t)[j]? = some x → ∃ i y b, i < j ∧ (bfs f s t)[i]? = some y ∧ f y b = x
  | 0, j, x, hj, e => by
    cases j with
    | zero => omega
    | succ j => simp [bfs] at e
  | t + 1, j, x, hj, e => by
    have e : (stepB f (bfs f s t) t)[j]? = some x := e
    show ∃ i y b, i < j ∧ (stepB f (bfs f s t) t)[i]? = some y ∧ f y b = x
    obtain ⟨r, er⟩ := stepB_pre f (bfs f s t) t
    by_cases hl : j < (bfs f s t).length
    · rw [er, List.getElem?_append_left hl] at e
      obtain ⟨i, y, b, h1, h2, h3⟩ := bfs_parent f s t j x hj e
      exact ⟨i, y, b, h1, by rw [er, List.getElem?_append_left (by omega)]; exact h2, h3⟩
    · cases q : (bfs f s t)[t]? with
      | none =>
        unfold stepB at e
        rw [q] at e
        have e : (bfs f s t)[j]? = some x := e
        have := (List.getElem?_eq_some_iff.mp e).1
        omega
      | some i =>
        have ht := (List.getElem?_eq_some_iff.mp q).1
        refine ⟨t, i, ?_⟩
        have hi : (stepB f (bfs f s t) t)[t]? = some i := by rw [er, List.getElem?_append_left ht]; exact q
        unfold stepB at e
        rw [q] at e
        have e : (push (push (bfs f s t) (f i false)) (f i true))[j]? = some x := e
        have hx : x = f i false ∨ x = f i true := by
          have key : ∀ (l : List Nat) (a : Nat), l.length ≤ j → (push l a)[j]? = some x → x = a := by
            intro l a hlj h
            unfold push at h
            split at h
            · have := (List.getElem?_eq_some_iff.mp h).1; omega
            · rw [List.getElem?_append_right hlj] at h
              have := List.mem_of_getElem? h
              simpa using this
          by_cases h2 : (push (bfs f s t) (f i false)).length ≤ j
          · exact .inr (key _ _ h2 e)
          · obtain ⟨r2, e2⟩ := push_pre (push (bfs f s t) (f i false)) (f i true)
            rw [e2, List.getElem?_append_left (by omega)] at e
            exact .inl (key _ _ (by omega) e)
        rcases hx with hx | hx
        · exact ⟨false, by omega, hi, hx.symm⟩
        · exact ⟨true, by omega, hi, hx.symm⟩
/-- a map that carries one system to the other carries the order -/
theorem bfs_map {f z : Nat → Bool → Nat} {s : Nat} (D : Nat → Prop) (π : Nat → Nat) (h0 : D s) (hD : ∀ i b, D i → D (z i b)) (inj : ∀ i j, D i → D j → π i = π j → i = j) (hπ : ∀ i b, D i → π (z i b) = f (π i) b) : ∀ t, bfs f (π s) t = (bfs z s t).map π
  | 0 => rfl
  | t + 1 => by
    have ih := bfs_map D π h0 hD inj hπ t
    have hall := bfs_all (f := z) (s := s) (P := D) h0 hD t
    show stepB f (bfs f (π s) t) t = (stepB z (bfs z s t) t).map π
    rw [ih]
    have pm : ∀ (l : List Nat) (x : Nat), (∀ y ∈ l, D y) → D x → push (l.map π) (π x) = (push l x).map π := by
      intro l x hl hx
      unfold push
      by_cases h : x ∈ l
      · rw [if_pos h, if_pos (List.mem_map_of_mem h)]
      · rw [if_neg h, if_neg (fun q => ?_)]
        · simp
        · obtain ⟨y, hy, e⟩ := List.mem_map.mp q
          exact h (inj _ _ (hl y hy) hx e ▸ hy)
    unfold stepB
    rw [List.getElem?_map]
    cases q : (bfs z s t)[t]? with
    | none => rfl
    | some i =>
      have hi := hall i (List.mem_of_getElem? q)
      show push (push ((bfs z s t).map π) (f (π i) false)) (f (π i) true) = (push (push (bfs z s t) (z i false)) (z i true)).map π
      rw [← hπ i false hi, ← hπ i true hi, pm _ _ hall (hD i false hi), pm _ _ (fun y hy => ?_) (hD i true hi)]
      rcases mem_push.mp hy with h | rfl
      · exact hall y h
      · exact hD i false hi
/-- no more elements than fit -/
theorem nodup_len : ∀ (n : Nat) (l : List Nat), l.Nodup → (∀ x ∈ l, x < n) → l.length ≤ n
  | 0, l, _, h => by
    cases l with
    | nil => simp
    | cons x l => exact absurd (h x (by simp)) (by omega)
  | n + 1, l, hn, h => by
    by_cases hm : n ∈ l
    · have h1 := nodup_len n (l.erase n) (hn.erase n) (fun x hx => by
        have hx' : x ≠ n ∧ x ∈ l := (List.Nodup.mem_erase_iff hn).mp hx
        have := h x hx'.2
        omega)
      rw [List.length_erase_of_mem hm] at h1
      omega
    · have h1 := nodup_len n l hn (fun x hx => by
        have := h x hx
        have : x ≠ n := fun e => hm (e ▸ hx)
        omega)
      omega
end KM
end

section
set_option Elab.async false
set_option linter.all false
set_option maxRecDepth 100000
set_option maxHeartbeats 400000
set_option autoImplicit false
/-! KM2: least acceptors; plain. -/
namespace KM
inductive Kd where
  | op
  | wh
  | de
  deriving DecidableEq
abbrev Row := Nat × Nat × Kd
def rowAt (rs : List Row) (i : Nat) : Row := rs.getD i (0, 0, .de)
def kd (rs : List Row) (i : Nat) : Kd := (rowAt rs i).2.2
def go (rs : List Row) (i : Nat) (b : Bool) : Nat := match b with
  | false => (rowAt rs i).1
  | true => (rowAt rs i).2.1
structure Formed (rs : List Row) : Prop where
  ne : 0 < rs.length
  lt : ∀ i b, i < rs.length → go rs i b < rs.length
inductive Live (k : Nat → Kd) (z : Nat → Bool → Nat) : Nat → Prop
  | wh {i : Nat} (h : k i = .wh) : Live k z i
  | op {i : Nat} (b : Bool) (h : k i = .op) (l : Live k z (z i b)) : Live k z i
/-- G numbers the classes of the coarsest partition of the states below m that keeps the marks -/
structure Coarse {κ : Type} (m : Nat) (μ : Nat → κ) (z : Nat → Bool → Nat) (G : Nat → Nat) : Prop where
  mark : ∀ i j, i < m → j < m → G i = G j → μ i = μ j
  step : ∀ i j b, i < m → j < m → G i = G j → G (z i b) = G (z j b)
  max : ∀ R : Nat → Nat → Prop, (∀ i j, R i j → i < m ∧ j < m ∧ μ i = μ j ∧ ∀ b, R (z i b) (z j b)) → ∀ i j, R i j → G i = G j
/-- .. by its least member -/
structure Rep (m : Nat) (G : Nat → Nat) : Prop where
  le : ∀ i, i < m → G i ≤ i
  idem : ∀ i, i < m → G (G i) = G i
/-- each kind is right -/
def KindsRight (rs : List Row) : Prop := ∀ i, i < rs.length → (kd rs i = .op → Live (kd rs) (go rs) i) ∧ (kd rs i ≠ .op → ∀ b, kd rs (go rs i b) = .de)
def InOrder (rs : List Row) : Prop := ∃ t, (bfs (go rs) 0 t).length ≤ t ∧ bfs (go rs) 0 t = List.range rs.length
def Inj (n : Nat) (C : Nat → Nat) : Prop := ∀ i j, i < n → j < n → C i = C j → i = j
/-- what is_least asks -/
def IsLeast (rs : List Row) : Prop := InOrder rs ∧ KindsRight rs ∧ ∀ C, Coarse rs.length (kd rs) (go rs) C → Inj rs.length C

/-- the making of a least acceptor -/
structure Making (rs : List Row) (s : Nat) (k' : Nat → Kd) (z' : Nat → Bool → Nat) (G : Nat → Nat) (ord : List Nat) (w : List Row) : Prop where
  formed : Formed rs
  start : s < rs.length
  kend : ∀ i, rs.length ≤ i → k' i = .de
  klive : ∀ i, i < rs.length → Live (kd rs) (go rs) i → k' i = kd rs i
  kdead : ∀ i, i < rs.length → ¬ Live (kd rs) (go rs) i → k' i = .de
  zop : ∀ i b, i < rs.length → k' i = .op → z' i b = go rs i b
  zno : ∀ i b, k' i ≠ .op → z' i b = rs.length
  coarse : Coarse (rs.length + 1) k' z' G
  rep : Rep (rs.length + 1) G
  order : ord = bfs (fun i b => G (z' i b)) (G s) (rs.length + 1)
  made : w = ord.map fun x => (ord.idxOf (G (z' x false)), ord.idxOf (G (z' x true)), k' x)
section
variable {rs : List Row} {s : Nat} {k' : Nat → Kd} {z' : Nat → Bool → Nat} {G : Nat → Nat} {ord : List Nat} {w : List Row}
namespace Making
theorem zlt (M : Making rs s k' z' G ord w) (i : Nat) (b : Bool) (hi : i < rs.length + 1) : z' i b < rs.length + 1 := by
  by_cases h : k' i = .op
  · have hi' : i < rs.length := by
      rcases Nat.lt_or_ge i rs.length with q | q
      · exact q
      · rw [M.kend i q] at h; cases h
    rw [M.zop i b hi' h]
    have := M.formed.lt i b hi'
    omega
  · rw [M.zno i b h]; omega
theorem ord_lt (M : Making rs s k' z' G ord w) : ∀ x ∈ ord, x < rs.length + 1 := by
  rw [M.order]
  have : ∀ x ∈ bfs (fun i b => G (z' i b)) (G s) (rs.length + 1), x < rs.length + 1 ∧ True := by
    refine bfs_all (P := fun x => x < rs.length + 1 ∧ True) ?_ ?_ _
    · have := M.rep.le s (by have := M.start; omega)
      have := M.start
      exact ⟨by omega, trivial⟩
    · intro i b hi
      have h1 := M.zlt i b hi.1
      have := M.rep.le _ h1
      exact ⟨by omega, trivial⟩
  exact fun x hx => (this x hx).1
theorem ord_rep (M : Making rs s k' z' G ord w) : ∀ x ∈ ord, G x = x := by
  rw [M.order]
  have h : ∀ x ∈ bfs (fun i b => G (z' i b)) (G s) (rs.length + 1), G x = x ∧ x < rs.length + 1 := by
    refine bfs_all (P := fun x => G x = x ∧ x < rs.length + 1) ?_ ?_ _
    · have := M.rep.le s (by have := M.start; omega)
      have := M.start
      exact ⟨M.rep.idem s (by omega), by omega⟩
    · intro i b hi
      have h1 := M.zlt i b hi.2
      have := M.rep.le _ h1
      exact ⟨M.rep.idem _ h1, by omega⟩
  exact fun x hx => (h x hx).1
theorem ord_nodup (M : Making rs s k' z' G ord w) : ord.Nodup := by rw [M.order]; exact bfs_nodup _ _ _
theorem ord_len (M : Making rs s k' z' G ord w) : ord.length ≤ rs.length + 1 := nodup_len _ _ M.ord_nodup M.ord_lt
theorem ord_closed (M : Making rs s k' z' G ord w) (x : Nat) (b : Bool) (hx : x ∈ ord) : G (z' x b) ∈ ord := by
  have hl := M.ord_len
  obtain ⟨j, hj, e⟩ := List.mem_iff_getElem.mp hx
  have e' : ord[j]? = some x := by rw [List.getElem?_eq_getElem hj, e]
  have ho := M.order
  rw [ho] at e' ⊢
  exact bfs_closed (fun i b => G (z' i b)) (G s) (rs.length + 1) j x b (by omega) e'
theorem ord_head (M : Making rs s k' z' G ord w) : ord[0]? = some (G s) := by rw [M.order]; exact bfs_head _ _ _
theorem wlen (M : Making rs s k' z' G ord w) : w.length = ord.length := by rw [M.made, List.length_map]
/-- the state of ord at a place -/
theorem wrow (M : Making rs s k' z' G ord w) (j : Nat) (hj : j < ord.length) : kd w j = k' (ord.getD j 0) ∧ ∀ b, go w j b = ord.idxOf (G (z' (ord.getD j 0) b)) := by
  have e : rowAt w j = (ord.idxOf (G (z' (ord.getD j 0) false)), ord.idxOf (G (z' (ord.getD j 0) true)), k' (ord.getD j 0)) := by
    unfold rowAt
    rw [M.made, List.getD_eq_getElem?_getD, List.getElem?_map, List.getD_eq_getElem?_getD, List.getElem?_eq_getElem hj]
    rfl
  refine ⟨by unfold kd; rw [e], fun b => ?_⟩
  unfold go
  rw [e]
  cases b <;> rfl
theorem at_mem (j : Nat) (hj : j < ord.length) : ord.getD j 0 ∈ ord := by
  rw [List.getD_eq_getElem?_getD, List.getElem?_eq_getElem hj]
  exact List.getElem_mem hj
theorem at_inj (M : Making rs s k' z' G ord w) (i j : Nat) (hi : i < ord.length) (hj : j < ord.length) (e : ord.getD i 0 = ord.getD j 0) : i = j := by
  rw [List.getD_eq_getElem?_getD, List.getElem?_eq_getElem hi, List.getD_eq_getElem?_getD, List.getElem?_eq_getElem hj] at e
  exact (List.getElem_inj M.ord_nodup).mp e
theorem at_idx (x : Nat) (hx : x ∈ ord) : ord.idxOf x < ord.length ∧ ord.getD (ord.idxOf x) 0 = x := by
  have h := List.idxOf_lt_length_iff.mpr hx
  refine ⟨h, ?_⟩
  rw [List.getD_eq_getElem?_getD, List.getElem?_eq_getElem h]
  exact List.getElem_idxOf h
/-- the step of w is the step of the classes -/
theorem wgo (M : Making rs s k' z' G ord w) (j : Nat) (b : Bool) (hj : j < ord.length) : go w j b < ord.length ∧ ord.getD (go w j b) 0 = G (z' (ord.getD j 0) b) := by
  rw [(M.wrow j hj).2 b]
  exact at_idx _ (M.ord_closed _ b (at_mem j hj))
theorem wformed (M : Making rs s k' z' G ord w) : Formed w := by
  have hl := M.wlen
  have := (List.getElem?_eq_some_iff.mp M.ord_head).1
  exact ⟨by omega, fun i b hi => by rw [hl] at hi ⊢; exact (M.wgo i b hi).1⟩
/-- w is met in order -/
theorem worder (M : Making rs s k' z' G ord w) : InOrder w := by
  have hl := M.wlen
  have h0 : 0 < ord.length := (List.getElem?_eq_some_iff.mp M.ord_head).1
  have hs : ord.getD 0 0 = G s := by rw [List.getD_eq_getElem?_getD, M.ord_head]; rfl
  have e := bfs_map (f := fun i b => G (z' i b)) (z := go w) (s := 0) (fun j => j < ord.length) (fun j => ord.getD j 0) h0 (fun i b hi => (M.wgo i b hi).1) (M.at_inj) (fun i b hi => (M.wgo i b hi).2) (rs.length + 1)
  rw [hs, ← M.order] at e
  have e2 : ord = (List.range ord.length).map fun j => ord.getD j 0 := by
    refine List.ext_getElem (by simp) fun i h1 h2 => ?_
    simp [List.getD_eq_getElem?_getD, h1]
  have e3 : bfs (go w) 0 (rs.length + 1) = List.range ord.length := by
    have hlen : (bfs (go w) 0 (rs.length + 1)).length = ord.length := by
      have := congrArg List.length e
      rw [List.length_map] at this
      exact this.symm
    refine List.ext_getElem (by rw [hlen, List.length_range]) fun i h1 h2 => ?_
    have hi : i < ord.length := by rw [hlen] at h1; exact h1
    have hm := bfs_all (f := go w) (s := 0) (P := fun j => j < ord.length) h0 (fun i b hi => (M.wgo i b hi).1) (rs.length + 1) _ (List.getElem_mem h1)
    rw [List.getElem_range]
    refine M.at_inj _ _ hm hi ?_
    have q := congrArg (fun l => l[i]?) e
    simp only [List.getElem?_map, List.getElem?_eq_getElem h1, List.getElem?_eq_getElem hi, Option.map_some] at q
    have q := Option.some.inj q
    rw [← q, List.getD_eq_getElem?_getD, List.getElem?_eq_getElem hi]
    rfl
  exact ⟨rs.length + 1, by rw [e3, List.length_range]; exact M.ord_len, by rw [e3, hl]⟩
theorem kop (M : Making rs s k' z' G ord w) (x : Nat) (h : k' x = .op) : x < rs.length ∧ Live (kd rs) (go rs) x ∧ kd rs x = .op := by
  have hx : x < rs.length := by
    rcases Nat.lt_or_ge x rs.length with q | q
    · exact q
    · rw [M.kend x q] at h; cases h
  by_cases hl : Live (kd rs) (go rs) x
  · exact ⟨hx, hl, by rw [← M.klive x hx hl]; exact h⟩
  · rw [M.kdead x hx hl] at h; cases h
/-- what lives lives behind too -/
theorem live' (M : Making rs s k' z' G ord w) : ∀ x, Live (kd rs) (go rs) x → x < rs.length → Live k' z' x := by
  intro x l
  induction l with
  | wh h => exact fun hx => .wh (by rw [M.klive _ hx (.wh h)]; exact h)
  | op b h l ih =>
    intro hx
    have ko := (M.klive _ hx (.op b h l)).trans h
    exact .op b ko (by rw [M.zop _ b hx ko]; exact ih (M.formed.lt _ b hx))
theorem wlive (M : Making rs s k' z' G ord w) : ∀ x, Live k' z' x → x < rs.length + 1 → ∀ j, j < ord.length → G x = ord.getD j 0 → Live (kd w) (go w) j := by
  intro x l
  induction l with
  | @wh i h =>
    intro hx j hj e
    have hm := at_mem (ord := ord) j hj
    have := M.coarse.mark i (ord.getD j 0) hx (M.ord_lt _ hm) (by rw [M.ord_rep _ hm]; exact e)
    exact .wh (by rw [(M.wrow j hj).1, ← this]; exact h)
  | @op i b h l ih =>
    intro hx j hj e
    have hm := at_mem (ord := ord) j hj
    have e' : G i = G (ord.getD j 0) := by rw [M.ord_rep _ hm]; exact e
    have hk := M.coarse.mark i (ord.getD j 0) hx (M.ord_lt _ hm) e'
    have hs := M.coarse.step i (ord.getD j 0) b hx (M.ord_lt _ hm) e'
    have hg := M.wgo j b hj
    exact .op b (by rw [(M.wrow j hj).1, ← hk]; exact h) (ih (M.zlt i b hx) _ hg.1 (by rw [hg.2]; exact hs))
theorem wkinds (M : Making rs s k' z' G ord w) : KindsRight w := by
  intro j hj
  rw [M.wlen] at hj
  have hm := at_mem (ord := ord) j hj
  refine ⟨fun h => ?_, fun h b => ?_⟩
  · rw [(M.wrow j hj).1] at h
    obtain ⟨h1, h2, h3⟩ := M.kop _ h
    exact M.wlive _ (M.live' _ h2 h1) (M.ord_lt _ hm) j hj (M.ord_rep _ hm)
  · rw [(M.wrow j hj).1] at h
    have hg := M.wgo j b hj
    rw [(M.wrow _ hg.1).1, hg.2, M.zno _ b h]
    have hG := M.rep.le rs.length (by omega)
    have := M.coarse.mark (G rs.length) rs.length (by omega) (by omega) (M.rep.idem _ (by omega))
    rw [this]
    exact M.kend _ (Nat.le_refl _)
theorem winj (M : Making rs s k' z' G ord w) : ∀ C, Coarse w.length (kd w) (go w) C → Inj w.length C := by
  intro C hC i j hi hj e
  have hl := M.wlen
  rw [hl] at hi hj
  have hC' := hC
  rw [hl] at hC'
  have key := M.coarse.max (fun x y => x < rs.length + 1 ∧ y < rs.length + 1 ∧ ∃ i j, i < ord.length ∧ j < ord.length ∧ G x = ord.getD i 0 ∧ G y = ord.getD j 0 ∧ C i = C j) (by
    rintro x y ⟨hx, hy, i, j, hi, hj, ei, ej, e⟩
    have mi := at_mem (ord := ord) i hi
    have mj := at_mem (ord := ord) j hj
    have ei' : G x = G (ord.getD i 0) := by rw [M.ord_rep _ mi]; exact ei
    have ej' : G y = G (ord.getD j 0) := by rw [M.ord_rep _ mj]; exact ej
    refine ⟨hx, hy, ?_, fun b => ⟨M.zlt x b hx, M.zlt y b hy, go w i b, go w j b, (M.wgo i b hi).1, (M.wgo j b hj).1, ?_, ?_, hC'.step i j b hi hj e⟩⟩
    · rw [M.coarse.mark x _ hx (M.ord_lt _ mi) ei', M.coarse.mark y _ hy (M.ord_lt _ mj) ej', ← (M.wrow i hi).1, ← (M.wrow j hj).1]
      exact hC'.mark i j hi hj e
    · rw [(M.wgo i b hi).2]; exact M.coarse.step x _ b hx (M.ord_lt _ mi) ei'
    · rw [(M.wgo j b hj).2]; exact M.coarse.step y _ b hy (M.ord_lt _ mj) ej')
  have mi := at_mem (ord := ord) i hi
  have mj := at_mem (ord := ord) j hj
  have q := key (ord.getD i 0) (ord.getD j 0) ⟨M.ord_lt _ mi, M.ord_lt _ mj, i, j, hi, hj, M.ord_rep _ mi, M.ord_rep _ mj, e⟩
  rw [M.ord_rep _ mi, M.ord_rep _ mj] at q
  exact M.at_inj i j hi hj q
/-- what is made is least -/
theorem least (M : Making rs s k' z' G ord w) : IsLeast w := ⟨M.worder, M.wkinds, M.winj⟩
/-- two dead states are of one class -/
theorem dead_one (M : Making rs s k' z' G ord w) (x y : Nat) (hx : x < rs.length + 1) (hy : y < rs.length + 1) (dx : k' x = .de) (dy : k' y = .de) : G x = G y :=
  M.coarse.max (fun x y => x < rs.length + 1 ∧ y < rs.length + 1 ∧ k' x = .de ∧ k' y = .de) (by
    rintro x y ⟨hx, hy, dx, dy⟩
    refine ⟨hx, hy, dx.trans dy.symm, fun b => ?_⟩
    rw [M.zno x b (by rw [dx]; decide), M.zno y b (by rw [dy]; decide)]
    exact ⟨by omega, by omega, M.kend _ (Nat.le_refl _), M.kend _ (Nat.le_refl _)⟩) x y ⟨hx, hy, dx, dy⟩
/-- if the least acceptor of the rows is the rows, they are least -/
theorem only (M : Making rs 0 k' z' G ord w) (e : w = rs) : IsLeast rs := e ▸ M.least
end Making
end
end KM
end

section
set_option Elab.async false
set_option linter.all false
set_option maxRecDepth 100000
set_option maxHeartbeats 400000
set_option autoImplicit false
/-! KM3: rows that are least are what is made of them; plain. -/
namespace KM
theorem Coarse.inj {κ : Type} {m : Nat} {μ : Nat → κ} {z : Nat → Bool → Nat} {C C' : Nat → Nat} (hz : ∀ i b, i < m → z i b < m) (h : Coarse m μ z C) (h' : Coarse m μ z C') (q : Inj m C) : Inj m C' := fun i j hi hj e =>
  q i j hi hj (h.max (fun i j => i < m ∧ j < m ∧ C' i = C' j) (by
    rintro i j ⟨hi, hj, e⟩
    exact ⟨hi, hj, h'.mark i j hi hj e, fun b => ⟨hz i b hi, hz j b hj, h'.step i j b hi hj e⟩⟩) i j ⟨hi, hj, e⟩)
section
variable {rs : List Row} {k' : Nat → Kd} {z' : Nat → Bool → Nat} {G : Nat → Nat} {ord : List Nat} {w : List Row}
theorem rowAt_eq {rs : List Row} {i : Nat} (h : i < rs.length) : rs[i]? = some (rowAt rs i) := by
  unfold rowAt
  rw [List.getD_eq_getElem?_getD, List.getElem?_eq_getElem h]
  rfl
theorem rowAt_is (rs : List Row) (i : Nat) : rowAt rs i = (go rs i false, go rs i true, kd rs i) := rfl
/-- a list of rows that has these is this -/
theorem rows_ext {v w : List Row} (hl : v.length = w.length) (hk : ∀ i, i < v.length → kd v i = kd w i) (hg : ∀ i b, i < v.length → go v i b = go w i b) : v = w := by
  refine List.ext_getElem? fun i => ?_
  by_cases h : i < v.length
  · rw [rowAt_eq h, rowAt_eq (by omega), rowAt_is, rowAt_is, hk i h, hg i false h, hg i true h]
  · rw [List.getElem?_eq_none (by omega), List.getElem?_eq_none (by omega)]
theorem Making.back (M : Making rs 0 k' z' G ord w) {C : Nat → Nat} (hO : InOrder rs) (hK : KindsRight rs) (hC : Coarse rs.length (kd rs) (go rs) C) (hI : Inj rs.length C) : w = rs := by
  have F := M.formed
  -- the marks are the kinds
  have kk : ∀ i, i < rs.length → k' i = kd rs i := by
    intro i hi
    by_cases hl : Live (kd rs) (go rs) i
    · exact M.klive i hi hl
    · rw [M.kdead i hi hl]
      cases e : kd rs i with
      | op => exact absurd ((hK i hi).1 e) hl
      | wh => exact absurd (.wh e) hl
      | de => rfl
  -- a dead state
  have deadgo : ∀ i, i < rs.length → kd rs i ≠ .op → ∀ b, kd rs (go rs i b) = .de := fun i hi h => (hK i hi).2 h
  have ex : ∀ i, Live (kd rs) (go rs) i → i < rs.length → ∃ d, d < rs.length ∧ kd rs d = .de := by
    intro i l
    induction l with
    | @wh i h => exact fun hi => ⟨go rs i false, F.lt i false hi, deadgo i hi (by rw [h]; decide) false⟩
    | @op i b h l ih => exact fun hi => ih (F.lt i b hi)
  have exd : ∃ d, d < rs.length ∧ kd rs d = .de := by
    cases e : kd rs 0 with
    | op => exact ex 0 ((hK 0 F.ne).1 e) F.ne
    | wh => exact ex 0 (.wh e) F.ne
    | de => exact ⟨0, F.ne, e⟩
  obtain ⟨d, hd, kd_d⟩ := exd
  have done : ∀ x, x < rs.length → kd rs x = .de → x = d := by
    intro x hx ex
    refine hI x d hx hd (hC.max (fun x y => x < rs.length ∧ y < rs.length ∧ kd rs x = .de ∧ kd rs y = .de) ?_ x d ⟨hx, hd, ex, kd_d⟩)
    rintro x y ⟨hx, hy, ex, ey⟩
    exact ⟨hx, hy, ex.trans ey.symm, fun b => ⟨F.lt x b hx, F.lt y b hy, deadgo x hx (by rw [ex]; decide) b, deadgo y hy (by rw [ey]; decide) b⟩⟩
  have gono : ∀ i b, i < rs.length → kd rs i ≠ .op → go rs i b = d := fun i b hi h => done _ (F.lt i b hi) (deadgo i hi h b)
  -- G is the identity
  have ginj : ∀ i j, i < rs.length → j < rs.length → G i = G j → i = j := by
    intro i j hi hj e
    refine hI i j hi hj (hC.max (fun i j => i < rs.length ∧ j < rs.length ∧ G i = G j) ?_ i j ⟨hi, hj, e⟩)
    rintro i j ⟨hi, hj, e⟩
    have hm := M.coarse.mark i j (by omega) (by omega) e
    rw [kk i hi, kk j hj] at hm
    refine ⟨hi, hj, hm, fun b => ⟨F.lt i b hi, F.lt j b hj, ?_⟩⟩
    by_cases h : kd rs i = .op
    · have := M.coarse.step i j b (by omega) (by omega) e
      rwa [M.zop i b hi (by rw [kk i hi]; exact h), M.zop j b hj (by rw [kk j hj, ← hm]; exact h)] at this
    · rw [gono i b hi h, gono j b hj (by rw [← hm]; exact h)]
  have gid : ∀ i, i < rs.length → G i = i := by
    intro i hi
    have h1 := M.rep.le i (by omega)
    exact ginj _ _ (by omega) hi (M.rep.idem i (by omega))
  have gend : G rs.length = d := by
    rw [M.dead_one rs.length d (by omega) (by omega) (M.kend _ (Nat.le_refl _)) (by rw [kk d hd]; exact kd_d)]
    exact gid d hd
  have step : ∀ i b, i < rs.length → G (z' i b) = go rs i b := by
    intro i b hi
    by_cases h : kd rs i = .op
    · rw [M.zop i b hi (by rw [kk i hi]; exact h), gid _ (F.lt i b hi)]
    · rw [M.zno i b (by rw [kk i hi]; exact h), gend, gono i b hi h]
  -- the order
  obtain ⟨t, ht, et⟩ := hO
  have ho : ord = List.range rs.length := by
    have e := bfs_map (f := fun i b => G (z' i b)) (z := go rs) (s := 0) (fun j => j < rs.length) (fun j => j) F.ne (fun i b hi => F.lt i b hi) (fun i j _ _ e => e) (fun i b hi => (step i b hi).symm) (rs.length + 1)
    rw [List.map_id'] at e
    rw [M.order, gid 0 F.ne, e, ← et]
    refine bfs_eq ?_ ht
    refine Nat.le_succ_of_le (nodup_len _ _ (bfs_nodup _ _ _) ?_)
    exact bfs_all (P := fun j => j < rs.length) F.ne (fun i b hi => F.lt i b hi) _
  have hl : w.length = rs.length := by rw [M.wlen, ho, List.length_range]
  have at_ : ∀ i, i < rs.length → ord.getD i 0 = i := by
    intro i hi
    rw [ho, List.getD_eq_getElem?_getD, List.getElem?_range hi]
    rfl
  refine rows_ext hl (fun i hi => ?_) fun i b hi => ?_
  · rw [hl] at hi
    rw [(M.wrow i (by rw [ho, List.length_range]; exact hi)).1, at_ i hi, kk i hi]
  · rw [hl] at hi
    have hg := M.wgo i b (by rw [ho, List.length_range]; exact hi)
    have h1 : go w i b < rs.length := by have := hg.1; rwa [ho, List.length_range] at this
    have h2 := hg.2
    rw [at_ _ h1, at_ i hi, step i b hi] at h2
    exact h2
end
end KM
end

section
set_option Elab.async false
set_option linter.all false
set_option maxRecDepth 100000
set_option maxHeartbeats 400000
set_option autoImplicit false
/-! KM4: numbers of keys by their first places; refinements; plain. -/
namespace KM
section
variable {κ : Type} [DecidableEq κ]
/-- the first place of the key of i -/
def fst (key : Nat → κ) (i : Nat) : Nat := ((List.range (i + 1)).find? fun j => decide (key j = key i)).getD i
def isF (key : Nat → κ) (j : Nat) : Bool := decide (fst key j = j)
/-- so many keys below i -/
def cnt (key : Nat → κ) (i : Nat) : Nat := (List.range i).countP (isF key)
theorem fst_spec (key : Nat → κ) (i : Nat) : fst key i ≤ i ∧ key (fst key i) = key i ∧ ∀ j, j < fst key i → key j ≠ key i := by
  unfold fst
  cases e : (List.range (i + 1)).find? fun j => decide (key j = key i) with
  | none =>
    have := List.find?_eq_none.mp e i (by simp)
    simp at this
  | some j =>
    have h1 := List.find?_some e
    have h2 := List.mem_of_find?_eq_some e
    simp at h1 h2
    refine ⟨by show j ≤ i; omega, h1, fun k hk q => ?_⟩
    have hk : k < j := hk
    rw [List.find?_eq_some_iff_append] at e
    obtain ⟨_, as, bs, e1, e2⟩ := e
    have hl : as.length = j := by
      have := congrArg (fun l => l[as.length]?) e1
      rw [List.getElem?_append_right (Nat.le_refl _), Nat.sub_self, List.getElem?_cons_zero] at this
      by_cases hq : as.length < i + 1
      · rw [List.getElem?_range hq] at this; exact Option.some.inj this
      · rw [List.getElem?_eq_none (by simp; omega)] at this; cases this
    have : k ∈ as := by
      have q2 := congrArg (fun l => l[k]?) e1
      rw [List.getElem?_range (by omega), List.getElem?_append_left (by omega)] at q2
      exact List.mem_of_getElem? q2.symm
    have := e2 k this
    simp at this
    exact this q
theorem fst_eq {key : Nat → κ} {i j : Nat} : fst key i = fst key j ↔ key i = key j := by
  obtain ⟨h1, h2, h3⟩ := fst_spec key i
  obtain ⟨g1, g2, g3⟩ := fst_spec key j
  constructor
  · intro e
    rw [← h2, e, g2]
  · intro e
    rcases Nat.lt_trichotomy (fst key i) (fst key j) with q | q | q
    · exact absurd (h2.trans e) (g3 _ q)
    · exact q
    · exact absurd (g2.trans e.symm) (h3 _ q)
theorem fst_idem (key : Nat → κ) (i : Nat) : fst key (fst key i) = fst key i := fst_eq.mpr (fst_spec key i).2.1
theorem isF_fst (key : Nat → κ) (i : Nat) : isF key (fst key i) = true := decide_eq_true (fst_idem key i)
theorem isF_iff {key : Nat → κ} {j : Nat} : isF key j = true ↔ ∀ i, i < j → key i ≠ key j := by
  unfold isF
  rw [decide_eq_true_iff]
  obtain ⟨h1, h2, h3⟩ := fst_spec key j
  constructor
  · intro e i hi
    rw [e] at h3
    exact h3 i hi
  · intro h
    rcases Nat.lt_or_ge (fst key j) j with q | q
    · exact absurd h2 (h _ q)
    · omega
theorem cnt_succ (key : Nat → κ) (i : Nat) : cnt key (i + 1) = cnt key i + (if isF key i = true then 1 else 0) := by
  unfold cnt
  rw [List.range_succ, List.countP_append]
  simp [List.countP_cons]
theorem cnt_mono (key : Nat → κ) {i j : Nat} (h : i ≤ j) : cnt key i ≤ cnt key j := by
  induction j with
  | zero => rw [Nat.le_zero.mp h]; exact Nat.le_refl _
  | succ j ih =>
    rcases Nat.lt_or_ge i (j + 1) with q | q
    · have := ih (by omega)
      rw [cnt_succ]
      omega
    · rw [show i = j + 1 by omega]; exact Nat.le_refl _
theorem cnt_le (key : Nat → κ) (i : Nat) : cnt key i ≤ i := by
  unfold cnt
  have := List.countP_le_length (p := isF key) (l := List.range i)
  simpa using this
theorem cnt_pos (key : Nat → κ) {m : Nat} (h : 0 < m) : 0 < cnt key m := by
  have h1 : isF key 0 = true := isF_iff.mpr fun i hi => absurd hi (by omega)
  have h2 := cnt_succ key 0
  rw [if_pos h1] at h2
  have h3 := cnt_mono key (show 0 + 1 ≤ m from h)
  omega
/-- the number of a key -/
def num (key : Nat → κ) (i : Nat) : Nat := cnt key (fst key i)
theorem num_eq {key : Nat → κ} {i j : Nat} : num key i = num key j ↔ key i = key j := by
  constructor
  · intro e
    rw [← fst_eq]
    have strict : ∀ a b, isF key a = true → a < b → cnt key a < cnt key b := by
      intro a b ha hab
      have h1 := cnt_succ key a
      rw [if_pos ha] at h1
      have h2 := cnt_mono key (show a + 1 ≤ b from hab)
      omega
    unfold num at e
    rcases Nat.lt_trichotomy (fst key i) (fst key j) with q | q | q
    · have := strict _ _ (isF_fst key i) q; omega
    · exact q
    · have := strict _ _ (isF_fst key j) q; omega
  · intro e
    unfold num
    rw [fst_eq.mpr e]
/-! refinements -/
variable {κ' : Type} [DecidableEq κ']
theorem isF_finer {key : Nat → κ} {key' : Nat → κ'} {m : Nat} (h : ∀ i j, i < m → j < m → key' i = key' j → key i = key j) {j : Nat} (hj : j < m) (hf : isF key j = true) : isF key' j = true :=
  isF_iff.mpr fun i hi e => isF_iff.mp hf i hi (h i j (by omega) hj e)
theorem cnt_finer {key : Nat → κ} {key' : Nat → κ'} {m : Nat} (h : ∀ i j, i < m → j < m → key' i = key' j → key i = key j) : cnt key m ≤ cnt key' m := by
  unfold cnt
  exact List.countP_mono_left fun j hj hf => isF_finer h (by simpa using hj) hf
theorem countP_same {p q : Nat → Bool} : ∀ (l : List Nat), (∀ x ∈ l, p x = true → q x = true) → l.countP p = l.countP q → ∀ x ∈ l, q x = true → p x = true
  | [], _, _ => by simp
  | a :: l, h, e => by
    have hl : ∀ x ∈ l, p x = true → q x = true := fun x hx => h x (by simp [hx])
    have hm := List.countP_mono_left hl
    rw [List.countP_cons, List.countP_cons] at e
    have ha := h a (by simp)
    have e' : l.countP p = l.countP q := by
      by_cases h1 : p a = true
      · rw [if_pos h1, if_pos (ha h1)] at e; omega
      · rw [if_neg h1] at e; split at e <;> omega
    intro x hx hq
    rcases List.mem_cons.mp hx with rfl | hx
    · by_cases h1 : p x = true
      · exact h1
      · rw [if_neg h1, if_pos hq] at e; omega
    · exact countP_same l hl e' x hx hq
theorem same_of_cnt {key : Nat → κ} {key' : Nat → κ'} {m : Nat} (h : ∀ i j, i < m → j < m → key' i = key' j → key i = key j) (e : cnt key' m ≤ cnt key m) {i j : Nat} (hi : i < m) (hj : j < m) (q : key i = key j) : key' i = key' j := by
  have e' : cnt key m = cnt key' m := Nat.le_antisymm (cnt_finer h) e
  have hs := countP_same (List.range m) (fun x hx hp => isF_finer h (by simpa using hx) hp) e'
  rw [← fst_eq]
  have s1 := fst_spec key' i
  have s2 := fst_spec key' j
  have f1 := hs (fst key' i) (by simp; omega) (isF_fst key' i)
  have f2 := hs (fst key' j) (by simp; omega) (isF_fst key' j)
  have k1 : key (fst key' i) = key i := h _ _ (by omega) hi s1.2.1
  have k2 : key (fst key' j) = key j := h _ _ (by omega) hj s2.2.1
  have a1 : fst key (fst key' i) = fst key' i := of_decide_eq_true f1
  have a2 : fst key (fst key' j) = fst key' j := of_decide_eq_true f2
  rw [← a1, ← a2]
  exact fst_eq.mpr (by rw [k1, k2, q])
end
/-- what a partition by keys is, if the next one has no more classes -/
theorem coarse_of {κ : Type} {m : Nat} {μ : Nat → κ} {z : Nat → Bool → Nat} {P P' : Nat → Nat} (hz : ∀ i b, i < m → z i b < m)
    (hμ : ∀ i j, i < m → j < m → P i = P j → μ i = μ j)
    (hP : ∀ i j, i < m → j < m → P' i = P' j → P i = P j ∧ ∀ b, P (z i b) = P (z j b))
    (hs : ∀ i j, i < m → j < m → P i = P j → P' i = P' j)
    (hmax : ∀ R : Nat → Nat → Prop, (∀ i j, R i j → i < m ∧ j < m ∧ μ i = μ j ∧ ∀ b, R (z i b) (z j b)) → ∀ i j, R i j → P' i = P' j) : Coarse m μ z P' where
  mark := fun i j hi hj e => hμ i j hi hj (hP i j hi hj e).1
  step := fun i j b hi hj e => hs _ _ (hz i b hi) (hz j b hj) ((hP i j hi hj e).2 b)
  max := hmax
end KM
end

section
set_option Elab.async false
set_option linter.all false
set_option maxRecDepth 100000
set_option maxHeartbeats 400000
set_option autoImplicit false
/-! KM5: what lives, turn by turn; plain. -/
namespace KM
/-- one turn more -/
def more (rs : List Row) (al : Nat → Bool) (i : Nat) : Bool := decide (kd rs i = .wh) || (decide (kd rs i = .op) && (al (go rs i false) || al (go rs i true)))
structure AlI (rs : List Row) (t : Nat) (al : Nat → Bool) : Prop where
  sound : ∀ i, i < rs.length → al i = true → Live (kd rs) (go rs) i
  wh : ∀ i, i < rs.length → kd rs i = .wh → al i = true
  up : ∀ i, i < rs.length → al i = true → more rs al i = true
  many : t = 0 ∨ t + 1 ≤ (List.range rs.length).countP al
theorem alI_first (rs : List Row) : AlI rs 0 fun i => decide (kd rs i = .wh) where
  sound := fun i _ h => .wh (of_decide_eq_true h)
  wh := fun i _ h => decide_eq_true h
  up := fun i _ h => by unfold more; rw [h]; rfl
  many := .inl rfl
theorem countP_lt {p q : Nat → Bool} : ∀ (l : List Nat), (∀ x ∈ l, p x = true → q x = true) → (∃ x ∈ l, q x = true ∧ p x = false) → l.countP p < l.countP q
  | [], _, ⟨x, h, _⟩ => by cases h
  | a :: l, h, ⟨x, hx, hq, hp⟩ => by
    have hl : ∀ x ∈ l, p x = true → q x = true := fun x hx => h x (by simp [hx])
    have hm := List.countP_mono_left hl
    rw [List.countP_cons, List.countP_cons]
    rcases List.mem_cons.mp hx with rfl | hx
    · rw [if_neg (by rw [hp]; decide), if_pos hq]; omega
    · have := countP_lt l hl ⟨x, hx, hq, hp⟩
      have ha := h a (by simp)
      by_cases h1 : p a = true
      · rw [if_pos h1, if_pos (ha h1)]; omega
      · rw [if_neg h1]; split <;> omega
theorem alI_next {rs : List Row} (F : Formed rs) {t : Nat} {al : Nat → Bool} (I : AlI rs t al) (hne : ¬ ∀ i, i < rs.length → more rs al i = al i) : AlI rs (t + 1) (more rs al) := by
  have hex : ∃ i, i < rs.length ∧ more rs al i = true ∧ al i = false := by
    refine Classical.byContradiction fun q => hne fun i hi => ?_
    cases e : al i with
    | true => exact I.up i hi e
    | false =>
      cases e2 : more rs al i with
      | false => rfl
      | true => exact absurd ⟨i, hi, e2, e⟩ q
  obtain ⟨x, hx, h1, h2⟩ := hex
  have hlt := countP_lt (p := al) (q := more rs al) (List.range rs.length) (fun y hy hp => I.up y (by simpa using hy) hp) ⟨x, by simpa using hx, h1, h2⟩
  refine ⟨fun i hi h => ?_, fun i hi h => ?_, fun i hi h => ?_, .inr ?_⟩
  · unfold more at h
    simp only [Bool.or_eq_true, Bool.and_eq_true, decide_eq_true_eq] at h
    rcases h with h | ⟨h, q | q⟩
    · exact .wh h
    · exact .op false h (I.sound _ (F.lt i false hi) q)
    · exact .op true h (I.sound _ (F.lt i true hi) q)
  · unfold more; rw [decide_eq_true h]; rfl
  · unfold more at h ⊢
    simp only [Bool.or_eq_true, Bool.and_eq_true, decide_eq_true_eq] at h ⊢
    rcases h with h | ⟨h, q | q⟩
    · exact .inl h
    · exact .inr ⟨h, .inl (by have := I.up _ (F.lt i false hi) q; unfold more at this; simpa using this)⟩
    · exact .inr ⟨h, .inr (by have := I.up _ (F.lt i true hi) q; unfold more at this; simpa using this)⟩
  · have hpos : 1 ≤ (List.range rs.length).countP al := by
      -- x is due to some that lives already
      unfold more at h1
      simp only [Bool.or_eq_true, Bool.and_eq_true, decide_eq_true_eq] at h1
      have : ∃ y, y < rs.length ∧ al y = true := by
        rcases h1 with h1 | ⟨_, q | q⟩
        · rw [I.wh x hx h1] at h2; cases h2
        · exact ⟨_, F.lt x false hx, q⟩
        · exact ⟨_, F.lt x true hx, q⟩
      obtain ⟨y, hy, q⟩ := this
      exact List.countP_pos_iff.mpr ⟨y, by simpa using hy, q⟩
    rcases I.many with rfl | h
    · omega
    · omega
theorem alI_end {rs : List Row} (F : Formed rs) {t : Nat} {al : Nat → Bool} (I : AlI rs t al) (he : ∀ i, i < rs.length → more rs al i = al i) (i : Nat) (hi : i < rs.length) : al i = true ↔ Live (kd rs) (go rs) i := by
  refine ⟨I.sound i hi, fun l => ?_⟩
  induction l with
  | wh h => exact I.wh _ hi h
  | @op j b h l ih =>
    have := ih (F.lt j b hi)
    rw [← he j hi]
    unfold more
    rw [decide_eq_true h]
    cases b
    · rw [this]; simp
    · rw [this]; simp
theorem alI_stop {rs : List Row} (F : Formed rs) {al : Nat → Bool} (I : AlI rs rs.length al) : False := by
  have := F.ne
  rcases I.many with h | h
  · omega
  · have := List.countP_le_length (p := al) (l := List.range rs.length)
    rw [List.length_range] at this
    omega
end KM
end

section
set_option Elab.async false
set_option linter.all false
set_option maxRecDepth 100000
set_option maxHeartbeats 400000
set_option autoImplicit false
/-! KM6: the program's classes; plain. -/
namespace KM
theorem cnt_same {κ κ' : Type} [DecidableEq κ] [DecidableEq κ'] {key : Nat → κ} {key' : Nat → κ'} {m : Nat} (h : ∀ i j, i < m → j < m → (key i = key j ↔ key' i = key' j)) : cnt key m = cnt key' m :=
  Nat.le_antisymm (cnt_finer fun i j hi hj e => (h i j hi hj).mpr e) (cnt_finer fun i j hi hj e => (h i j hi hj).mp e)
theorem cnt_num {κ : Type} [DecidableEq κ] (key : Nat → κ) (m : Nat) : cnt key m = cnt (num key) m := cnt_same fun i j _ _ => (num_eq (key := key) (i := i) (j := j)).symm
structure RefI (N : Nat) (z : Nat → Bool → Nat) (k : Nat → Kd) (C : Nat → Nat) (m0 : Nat) : Prop where
  mark : ∀ i j, i < N → j < N → C i = C j → k i = k j
  max : ∀ R : Nat → Nat → Prop, (∀ i j, R i j → i < N ∧ j < N ∧ k i = k j ∧ ∀ b, R (z i b) (z j b)) → ∀ i j, R i j → C i = C j
  elder : m0 = 0 ∨ ∃ C0 : Nat → Nat, m0 = cnt C0 N ∧ ∀ i j, i < N → j < N → C i = C j → C0 i = C0 j ∧ ∀ b, C0 (z i b) = C0 (z j b)
theorem refI_le {N : Nat} {z : Nat → Bool → Nat} {k : Nat → Kd} {C : Nat → Nat} {m0 : Nat} (I : RefI N z k C m0) : m0 ≤ cnt C N := by
  rcases I.elder with h | ⟨C0, rfl, h⟩
  · omega
  · exact cnt_finer fun i j hi hj e => (h i j hi hj e).1
theorem refI_end {N : Nat} {z : Nat → Bool → Nat} {k : Nat → Kd} {C : Nat → Nat} {m0 : Nat} (hN : 0 < N) (hz : ∀ i b, i < N → z i b < N) (I : RefI N z k C m0) (e : cnt C N = m0) : Coarse N k z C := by
  have hp := cnt_pos C hN
  rcases I.elder with h | ⟨C0, h0, h⟩
  · omega
  · have hs : ∀ i j, i < N → j < N → C0 i = C0 j → C i = C j := fun i j hi hj q => same_of_cnt (key := C0) (key' := C) (fun i j hi hj e => (h i j hi hj e).1) (by omega) hi hj q
    exact coarse_of hz (fun i j hi hj q => I.mark i j hi hj (hs i j hi hj q)) h hs I.max
/-- the keys of the next turn -/
def keyOfC (C : Nat → Nat) (z : Nat → Bool → Nat) (i : Nat) : List Int := [(C i : Int), (C (z i false) : Int), (C (z i true) : Int)]
end KM
end

section
set_option Elab.async false
set_option linter.all false
set_option maxRecDepth 100000
set_option maxHeartbeats 400000
set_option autoImplicit false
/-! KM7: what lives, by a heap of waiting states; plain. -/
namespace KM
def falses (N : Nat) (f : Nat → Bool) : Nat := (List.range N).countP fun i => !f i
def setT (f : Nat → Bool) (i : Nat) : Nat → Bool := fun j => if j = i then true else f j
theorem falses_set {N i : Nat} {f : Nat → Bool} (hi : i < N) (h : f i = false) : falses N (setT f i) < falses N f := by
  unfold falses
  refine countP_lt _ (fun x _ hx => ?_) ⟨i, by simpa using hi, by rw [h]; rfl, by unfold setT; simp⟩
  unfold setT at hx
  split at hx
  · cases hx
  · exact hx
theorem falses_le (N : Nat) (f : Nat → Bool) : falses N f ≤ N := by
  have := List.countP_le_length (p := fun i => !f i) (l := List.range N)
  simpa [falses] using this
structure LivI (N : Nat) (z : Nat → Bool → Nat) (k : Nat → Kd) (f : Nat → Bool) (w : List Nat) : Prop where
  sound : ∀ i, i < N → f i = true → Live k z i
  wh : ∀ i, i < N → k i = .wh → f i = true
  step : ∀ i b, i < N → k i = .op → f (z i b) = true → z i b ∉ w → f i = true
  wait : ∀ j, j ∈ w → j < N ∧ f j = true
theorem livI_first (N : Nat) (z : Nat → Bool → Nat) (k : Nat → Kd) (hz : ∀ i b, i < N → z i b < N) : LivI N z k (fun i => decide (k i = .wh)) ((List.range N).filter fun i => decide (k i = .wh)) where
  sound := fun i _ h => .wh (of_decide_eq_true h)
  wh := fun i _ h => decide_eq_true h
  step := fun i b hi _ h hn => by
    refine absurd ?_ hn
    rw [List.mem_filter]
    exact ⟨by simpa using hz i b hi, h⟩
  wait := fun j hj => by simpa using List.mem_filter.mp hj
theorem livI_end {N : Nat} {z : Nat → Bool → Nat} {k : Nat → Kd} {f : Nat → Bool} (hz : ∀ i b, i < N → z i b < N) (I : LivI N z k f []) (i : Nat) (hi : i < N) : f i = true ↔ Live k z i := by
  refine ⟨I.sound i hi, fun l => ?_⟩
  induction l with
  | wh h => exact I.wh _ hi h
  | op b h l ih => exact I.step _ b hi h (ih (hz _ b hi)) (by simp)
/-- while the states ahead of x are looked at -/
structure LivJ (N : Nat) (z : Nat → Bool → Nat) (k : Nat → Kd) (x : Nat) (done : List Nat) (f : Nat → Bool) (w : List Nat) : Prop where
  sound : ∀ i, i < N → f i = true → Live k z i
  wh : ∀ i, i < N → k i = .wh → f i = true
  step : ∀ i b, i < N → k i = .op → f (z i b) = true → z i b ∉ w → (z i b = x → i ∈ done) → f i = true
  wait : ∀ j, j ∈ w → j < N ∧ f j = true
  at_ : x < N ∧ f x = true
theorem livJ_first {N : Nat} {z : Nat → Bool → Nat} {k : Nat → Kd} {f : Nat → Bool} {w : List Nat} {x : Nat} (I : LivI N z k f (w ++ [x])) : LivJ N z k x [] f w where
  sound := I.sound
  wh := I.wh
  step := fun i b hi ho h hn hx => I.step i b hi ho h fun q => by
    rcases List.mem_append.mp q with q | q
    · exact hn q
    · rw [List.mem_singleton] at q
      exact absurd (hx q) (by simp)
  wait := fun j hj => I.wait j (List.mem_append_left _ hj)
  at_ := I.wait x (by simp)
theorem livJ_take {N : Nat} {z : Nat → Bool → Nat} {k : Nat → Kd} {f : Nat → Bool} {w : List Nat} {x i : Nat} {done : List Nat} (J : LivJ N z k x done f w) (hi : i < N) (b : Bool) (hb : z i b = x) (hf : f i = false) (ho : k i = .op) : LivJ N z k x (done ++ [i]) (setT f i) (w ++ [i]) where
  sound := fun j hj h => by
    unfold setT at h
    split at h
    · rename_i e
      subst e
      exact .op b ho (hb ▸ J.sound x J.at_.1 J.at_.2)
    · exact J.sound j hj h
  wh := fun j hj h => by
    unfold setT
    split
    · rfl
    · exact J.wh j hj h
  step := fun j c hj hoj h hn hx => by
    unfold setT
    split
    · rfl
    · rename_i ne
      have h1 : z j c ≠ i := fun e => hn (by rw [e]; simp)
      unfold setT at h
      rw [if_neg h1] at h
      refine J.step j c hj hoj h (fun q => hn (List.mem_append_left _ q)) fun e => ?_
      rcases List.mem_append.mp (hx e) with q | q
      · exact q
      · rw [List.mem_singleton] at q
        exact absurd q ne
  wait := fun j hj => by
    rcases List.mem_append.mp hj with q | q
    · have := J.wait j q
      refine ⟨this.1, ?_⟩
      unfold setT
      split
      · rfl
      · exact this.2
    · rw [List.mem_singleton] at q
      subst q
      exact ⟨hi, by unfold setT; simp⟩
  at_ := ⟨J.at_.1, by unfold setT; split <;> first | rfl | exact J.at_.2⟩
theorem livJ_skip {N : Nat} {z : Nat → Bool → Nat} {k : Nat → Kd} {f : Nat → Bool} {w : List Nat} {x i : Nat} {done : List Nat} (J : LivJ N z k x done f w) (h : f i = true ∨ k i ≠ .op) : LivJ N z k x (done ++ [i]) f w where
  sound := J.sound
  wh := J.wh
  step := fun j c hj hoj hf hn hx => by
    by_cases e : j = i
    · subst e
      rcases h with h | h
      · exact h
      · exact absurd hoj h
    · refine J.step j c hj hoj hf hn fun e2 => ?_
      rcases List.mem_append.mp (hx e2) with q | q
      · exact q
      · rw [List.mem_singleton] at q
        exact absurd q e
  wait := J.wait
  at_ := J.at_
theorem livJ_end {N : Nat} {z : Nat → Bool → Nat} {k : Nat → Kd} {f : Nat → Bool} {w : List Nat} {x : Nat} {done : List Nat} (J : LivJ N z k x done f w) (h : ∀ i b, i < N → z i b = x → i ∈ done) : LivI N z k f w where
  sound := J.sound
  wh := J.wh
  step := fun i b hi ho hf hn => J.step i b hi ho hf hn (h i b hi)
  wait := J.wait
end KM
end

section
set_option Elab.async false
set_option linter.all false
set_option maxRecDepth 100000
set_option maxHeartbeats 400000
set_option autoImplicit false
/-! KL1: lists as functions, dicts of first places. -/
namespace Mp.Q
open PySem L2 KM
/-- a list of so many items, as data -/
def lst (n : Nat) (φ : Nat → PyData) : PyData := .list ((List.range n).map φ)
section
variable {S : Store} {n i : Nat} {φ ψ : Nat → PyData}
theorem lst_ext (h : ∀ i, i < n → φ i = ψ i) : lst n φ = lst n ψ := by
  unfold lst
  rw [List.map_congr_left fun i hi => h i (by simpa using hi)]
theorem lst_inj (h : lst n φ = lst n ψ) : ∀ i, i < n → φ i = ψ i := by
  intro i hi
  unfold lst at h
  injection h with h
  have := congrArg (fun l => l[i]?) h
  simpa [List.getElem?_map, List.getElem?_range hi] using this
theorem lst_get (hi : i < n) : ((List.range n).map φ)[i]? = some (φ i) := by
  rw [List.getElem?_map, List.getElem?_range hi]
  rfl
theorem item_lst (hi : i < n) : itemOf (.dat (lst n φ)) (.dat (nD i)) S = .ok (.dat (φ i)) S := item_listN (lst_get hi)
theorem len_lst {live : Bool} : blt live "len" [.dat (lst n φ)] S = .ok (.dat (nD n)) S := by
  have := len_list (S := S) (live := live) (ds := (List.range n).map φ)
  rwa [List.length_map, List.length_range] at this
theorem walk_lst : walkV (.dat (lst n φ)) S = .ok (.list ((List.range n).map fun i => .dat (φ i))) S := by
  have : walkV (.dat (lst n φ)) S = .ok (.list (((List.range n).map φ).map W.dat)) S := rfl
  rwa [List.map_map] at this
theorem enum_lst : enumM (.dat (lst n φ)) S = .ok (.list ((List.range n).map fun i => .dat (.tuple [nD i, φ i]))) S := by
  have e : enumL 0 ((List.range n).map φ) = (List.range n).map fun i => .dat (.tuple [nD i, φ i]) := by
    refine List.ext_getElem? fun i => ?_
    rw [enumL_get]
    by_cases hi : i < n
    · rw [lst_get hi, List.getElem?_map, List.getElem?_range hi, Nat.zero_add]
      rfl
    · rw [List.getElem?_eq_none (by simp; omega), List.getElem?_eq_none (by simp; omega)]
      rfl
  show Res.ok (Wk.list (enumL 0 ((List.range n).map φ))) S = _
  rw [e]
theorem new_lst {f : Nat → W} (h : ∀ i, i < n → f i = .dat (φ i)) : newList false ((List.range n).map f) S = .ok (.dat (lst n φ)) S := by
  have e : (List.range n).map f = ((List.range n).map φ).map W.dat := by
    rw [List.map_map]
    exact List.map_congr_left fun i hi => h i (by simpa using hi)
  rw [e]
  exact newList_dat
theorem lst_snoc {x : PyData} : (List.range n).map φ ++ [x] = (List.range (n + 1)).map fun i => if i < n then φ i else x := by
  rw [List.range_succ, List.map_append]
  congr 1
  · exact List.map_congr_left fun i hi => by rw [if_pos (by simpa using hi)]
  · simp
theorem add_one {x : PyData} (h : n + 1 ≤ 1000000) : binOp false .Add (.dat (lst n φ)) (.dat (.list [x])) S = .ok (.dat (lst (n + 1) fun i => if i < n then φ i else x)) S := by
  have := add_list (S := S) (ds := (List.range n).map φ) (es := [x]) (by simpa using h)
  rw [lst_snoc] at this
  exact this
theorem plain_lst {k : Nat} (h : ∀ i, i < n → plain k (φ i) = true) : plain (k + 1) (lst n φ) = true := by
  show plainAll k ((List.range n).map φ) = true
  have : ∀ l : List Nat, (∀ i ∈ l, plain k (φ i) = true) → plainAll k (l.map φ) = true := by
    intro l
    induction l with
    | nil => intro _; rfl
    | cons a l ih =>
      intro hl
      show (plain k (φ a) && plainAll k (l.map φ)) = true
      rw [hl a (by simp), ih fun i hi => hl i (by simp [hi])]
      rfl
  exact this _ fun i hi => h i (by simpa using hi)
end
/-! ### comprehensions over such lists -/
section
variable {S : Store} {E : Xc → Store → Prop} {n : Nat} {t : Slots → M Bool} {e : Slots → M W} {a : W → M Slots} {Q : List W → Store → Prop}
/-- .. without an if, the store left as it is -/
theorem wp_compA {w : Nat → W} (f : Nat → W) (hn : n ≤ 900000) (h : ∀ i, i < n → wp (a (w i)) S (fun g S1 => wp (e g) S1 (fun y S2 => y = f i ∧ S2 = S) noE) E) (q : Q ((List.range n).map f) S) : wp (compW (fun g => ret true) e a (.list ((List.range n).map w)) walkFuel 0 []) S Q E := by
  refine wp_comp (fun i acc S' => acc = (List.range i).map f ∧ S' = S) ?_ ?_ walkFuel 0 [] S (by simp [walkFuel]; omega) (by omega) ⟨rfl, rfl⟩
  · rintro i w' acc S' hw ⟨rfl, rfl⟩
    have hi : i < n := by have := (List.getElem?_eq_some_iff.mp hw).1; simpa using this
    rw [List.getElem?_map, List.getElem?_range hi] at hw
    cases hw
    refine wp_mono (h i hi) (fun g S1 q => ?_) fun _ _ q => q
    refine wp_ret ⟨fun _ => wp_mono q (fun y S2 q => ?_) fun _ _ q => q, fun k => by cases k⟩
    obtain ⟨rfl, rfl⟩ := q
    exact ⟨by rw [List.range_succ, List.map_append]; rfl, rfl⟩
  · rintro acc S' ⟨rfl, rfl⟩
    simpa using q
end
/-! ### dicts of first places -/
structure Dk {κ : Type} [DecidableEq κ] (mk : List (κ × W) → Ob) (φ : Nat → PyData) (key : Nat → κ) : Prop where
  isd : ∀ kvs, isDict (mk kvs) = true
  cv : ∀ kvs i, conv (mk kvs) (φ i) = mk kvs
  cv0 : ∀ i, conv (.dk []) (φ i) = mk []
  ask : ∀ kvs i, askD (mk kvs) (φ i) = some (getK kvs (key i))
  put : ∀ kvs i v, putD (mk kvs) (φ i) v = some (mk (setK kvs (key i) v))
  size : ∀ kvs, sizeD (mk kvs) = kvs.length
  nlst : ∀ kvs ws, mk kvs ≠ .lst ws
theorem dk_str {s : Nat → Str} : Dk (κ := Key) Ob.dk (fun i => .str (s i)) (fun i => .inr (s i)) where
  isd := fun _ => rfl
  cv := fun kvs i => by cases kvs <;> rfl
  cv0 := fun _ => rfl
  ask := fun _ _ => rfl
  put := fun _ _ _ => rfl
  size := fun _ => rfl
  nlst := fun _ _ h => by cases h
theorem dk_tup {a b c : Nat → Nat} : Dk (κ := List Key) Ob.dt (fun i => .tuple [nD (a i), nD (b i), nD (c i)]) (fun i => [.inl (a i), .inl (b i), .inl (c i)]) where
  isd := fun _ => rfl
  cv := fun kvs i => by cases kvs <;> rfl
  cv0 := fun _ => rfl
  ask := fun _ _ => rfl
  put := fun _ _ _ => rfl
  size := fun _ => rfl
  nlst := fun _ _ h => by cases h
section
variable {κ : Type} [DecidableEq κ] {mk : List (κ × W) → Ob} {φ : Nat → PyData} {key : Nat → κ} {S : Store} {k n : Nat} {o : Ob} {kvs : List (κ × W)} {i : Nat}
/-- the dict as it stands: of the kind asked, or the empty one -/
def DkIs (mk : List (κ × W) → Ob) (o : Ob) (kvs : List (κ × W)) : Prop := o = mk kvs ∨ o = .dk [] ∧ kvs = []
theorem Dk.conv (D : Dk mk φ key) (h : DkIs mk o kvs) (i : Nat) : conv o (φ i) = mk kvs := by
  rcases h with rfl | ⟨rfl, rfl⟩
  · exact D.cv _ _
  · exact D.cv0 _
theorem Dk.sizeI (D : Dk mk φ key) (h : DkIs mk o kvs) : sizeD o = kvs.length := by
  rcases h with rfl | ⟨rfl, rfl⟩
  · exact D.size _
  · rfl
theorem Dk.isdI (D : Dk mk φ key) (h : DkIs mk o kvs) : isDict o = true := by
  rcases h with rfl | ⟨rfl, rfl⟩
  · exact D.isd _
  · rfl
theorem Dk.recv (D : Dk mk φ key) (hS : S[k]? = some (some o)) (h : DkIs mk o kvs) : recv "setdefault" (.obj k) S = .ok () S := by
  have m : mKind "setdefault" = some false := rfl
  simp only [Mp.recv, m, live_obj hS, D.isdI h, if_true]
theorem Dk.sd_new (D : Dk mk φ key) (hS : S[k]? = some (some o)) (h : DkIs mk o kvs) (hn : getK kvs (key i) = none) (hz : kvs.length ≤ 1000000) (v : PyData) :
    method (.obj k) "setdefault" [.dat (φ i), .dat v] S = .ok (.dat v) (S.set k (some (mk (setK kvs (key i) (.dat v))))) := by
  have hl : ∀ ws, o ≠ .lst ws := by
    rcases h with rfl | ⟨rfl, rfl⟩
    · exact D.nlst _
    · intro ws q; cases q
  have hr : roomy (sizeD o) = true := by rw [D.sizeI h]; exact decide_eq_true hz
  cases o with
  | lst ws => exact absurd rfl (hl ws)
  | dk kk =>
    unfold method
    simp only [live_obj hS, if_true, hr, D.conv h i, D.ask, hn, D.put]
  | dt kk =>
    unfold method
    simp only [live_obj hS, if_true, hr, D.conv h i, D.ask, hn, D.put]
theorem Dk.sd_old (D : Dk mk φ key) (hS : S[k]? = some (some o)) (h : DkIs mk o kvs) {r : W} (hn : getK kvs (key i) = some r) (hz : kvs.length ≤ 1000000) (v : PyData) :
    method (.obj k) "setdefault" [.dat (φ i), .dat v] S = .ok r (S.set k (some (mk kvs))) := by
  have hl : ∀ ws, o ≠ .lst ws := by
    rcases h with rfl | ⟨rfl, rfl⟩
    · exact D.nlst _
    · intro ws q; cases q
  have hr : roomy (sizeD o) = true := by rw [D.sizeI h]; exact decide_eq_true hz
  cases o with
  | lst ws => exact absurd rfl (hl ws)
  | dk kk =>
    unfold method
    simp only [live_obj hS, if_true, hr, D.conv h i, D.ask, hn]
  | dt kk =>
    unfold method
    simp only [live_obj hS, if_true, hr, D.conv h i, D.ask, hn]
theorem Dk.item (D : Dk mk φ key) (hS : S[k]? = some (some (mk kvs))) {r : W} (hn : getK kvs (key i) = some r) : itemOf (.obj k) (.dat (φ i)) S = .ok r S := by
  have e : S.set k (some (mk kvs)) = S := by
    obtain ⟨h1, h2⟩ := List.getElem?_eq_some_iff.mp hS
    rw [← h2]
    exact List.set_getElem_self h1
  unfold itemOf
  simp only [live_obj hS, D.isd, datOf, D.cv, D.ask, hn, e]
/-- what the dict holds behind i keys -/
def kv (key : Nat → κ) (val : Nat → PyData) : Nat → List (κ × W)
  | 0 => []
  | i + 1 => if isF key i = true then kv key val i ++ [(key i, .dat (val i))] else kv key val i
theorem kv_len (key : Nat → κ) (val : Nat → PyData) : ∀ i, (kv key val i).length = cnt key i
  | 0 => rfl
  | i + 1 => by
    rw [cnt_succ]
    unfold kv
    split
    · rw [List.length_append, kv_len key val i]; rfl
    · rw [kv_len key val i]
      omega
theorem kv_get (key : Nat → κ) (val : Nat → PyData) (x : Nat) : ∀ i, getK (kv key val i) (key x) = if fst key x < i then some (.dat (val (fst key x))) else none
  | 0 => rfl
  | i + 1 => by
    have ih := kv_get key val x i
    unfold kv
    by_cases hf : isF key i = true
    · rw [if_pos hf]
      unfold getK at ih ⊢
      rw [List.find?_append]
      by_cases h1 : fst key x < i
      · rw [if_pos h1] at ih
        rw [if_pos (by omega)]
        cases e : (kv key val i).find? fun kv => decide (kv.1 = key x) with
        | none => rw [e] at ih; cases ih
        | some p => rw [e] at ih; exact ih
      · rw [if_neg h1] at ih
        have en : (kv key val i).find? (fun kv => decide (kv.1 = key x)) = none := by
          cases e : (kv key val i).find? fun kv => decide (kv.1 = key x) with
          | none => rfl
          | some p => rw [e] at ih; cases ih
        rw [en]
        by_cases h2 : key i = key x
        · have : fst key x = i := by
            have := fst_eq.mpr h2
            rw [← this]
            exact of_decide_eq_true hf
          rw [if_pos (by omega), this]
          simp [h2]
        · have : ¬ fst key x < i + 1 := by
            intro q
            have q2 : fst key x = i := by omega
            exact h2 (by rw [← q2]; exact (fst_spec key x).2.1)
          rw [if_neg this]
          simp [h2]
    · rw [if_neg hf, ih]
      by_cases h1 : fst key x < i
      · rw [if_pos h1, if_pos (by omega)]
      · have : fst key x ≠ i := fun q => hf (q ▸ isF_fst key x)
        rw [if_neg h1, if_neg (by omega)]
/-- a key asked behind the keys ahead of it -/
theorem kv_at (key : Nat → κ) (val : Nat → PyData) (i : Nat) : getK (kv key val i) (key i) = if isF key i = true then none else some (.dat (val (fst key i))) := by
  rw [kv_get]
  have h := fst_spec key i
  by_cases hf : isF key i = true
  · have : fst key i = i := of_decide_eq_true hf
    rw [if_pos hf, if_neg (by omega)]
  · have : fst key i ≠ i := fun e => hf (decide_eq_true e)
    rw [if_neg hf, if_pos (by omega)]
theorem setK_new {kvs : List (κ × W)} {k : κ} {v : W} (h : getK kvs k = none) : setK kvs k v = kvs ++ [(k, v)] := by
  unfold setK
  rw [if_neg]
  intro q
  rw [List.any_eq_true] at q
  obtain ⟨p, hp, e⟩ := q
  unfold getK at h
  cases e2 : kvs.find? fun kv => decide (kv.1 = k) with
  | none =>
    have := List.find?_eq_none.mp e2 p hp
    exact this e
  | some p => rw [e2] at h; cases h
/-- one more key -/
theorem Dk.sd_step (D : Dk mk φ key) (val : Nat → PyData) (hS : S[k]? = some (some o)) (h : DkIs mk o (kv key val i)) (hi : i ≤ 900000) :
    ∃ r, method (.obj k) "setdefault" [.dat (φ i), .dat (val i)] S = .ok r (S.set k (some (mk (kv key val (i + 1))))) := by
  have hz : (kv key val i).length ≤ 1000000 := by rw [kv_len]; have := cnt_le key i; omega
  have ha := kv_at key val i
  by_cases hf : isF key i = true
  · rw [if_pos hf] at ha
    refine ⟨.dat (val i), ?_⟩
    have e : kv key val (i + 1) = kv key val i ++ [(key i, .dat (val i))] := if_pos hf
    rw [D.sd_new hS h ha hz, setK_new ha, e]
  · rw [if_neg hf] at ha
    refine ⟨.dat (val (fst key i)), ?_⟩
    have e : kv key val (i + 1) = kv key val i := if_neg hf
    rw [D.sd_old hS h ha hz, e]
end
end Mp.Q
end

section
set_option Elab.async false
set_option linter.all false
set_option maxRecDepth 100000
set_option maxHeartbeats 400000
set_option autoImplicit false
/-! KL1b: more steps on data. -/
namespace Mp.Q
open PySem L2 KM
section
variable {S : Store} {E : Xc → Store → Prop}
/-- a loop's next turn; its end -/
theorem wp_for_at {a : W → Slots → M Slots} {b : Slots → M Fl} {ws : List W} {Q : Fl → Store → Prop} (n : Nat) {i : Nat} {g : Slots} {w : W} (e : ws[i]? = some w)
    (h : wp (a w g) S (fun g1 S1 => wp (b g1) S1 (forQ (fun g' S' => wp (forW a b (.list ws) n (i + 1) g') S' Q E) Q) E) E) : wp (forW a b (.list ws) (n + 1) i g) S Q E := by
  unfold forW
  refine wp_bnd (wp_of (a := some w) (S' := S) (by show Res.ok ws[i]? S = _; rw [e]) ?_)
  refine wp_bnd (wp_mono h (fun g1 S1 q => ?_) fun _ _ q => q)
  refine wp_bnd (wp_mono q (fun f S2 q => ?_) fun _ _ q => q)
  unfold forQ at q
  cases f with
  | nx g' => exact q
  | ct g' => exact q
  | bk g' => exact wp_ret q
  | rt w => exact wp_ret q
  | xc x g' => exact wp_ret q
theorem wp_for_nil {a : W → Slots → M Slots} {b : Slots → M Fl} {ws : List W} {Q : Fl → Store → Prop} (n : Nat) {i : Nat} {g : Slots} (e : ws[i]? = none) (h : wp (ret (.nx g)) S Q E) : wp (forW a b (.list ws) (n + 1) i g) S Q E := by
  unfold forW
  refine wp_bnd (wp_of (a := none) (S' := S) (by show Res.ok ws[i]? S = _; rw [e]) ?_)
  exact h
/-- a comprehension over a live list that stays -/
theorem wp_compO {e : Slots → M W} {a : W → M Slots} {k : Nat} {ws : List W} {Q : List W → Store → Prop} (f : W → W) (hk : S[k]? = some (some (.lst ws))) (hn : ws.length ≤ 900000)
    (h : ∀ w ∈ ws, wp (a w) S (fun g S1 => wp (e g) S1 (fun y S2 => y = f w ∧ S2 = S) noE) E) (q : Q (ws.map f) S) : wp (compW (fun g => ret true) e a (.obj k) walkFuel 0 []) S Q E := by
  have key : ∀ (n i : Nat), ws.length < i + n → i ≤ ws.length → wp (compW (fun g => ret true) e a (.obj k) n i ((ws.take i).map f)) S Q E := by
    intro n
    induction n with
    | zero => intro i h1 h2; omega
    | succ n ih =>
      intro i h1 h2
      unfold compW
      by_cases hl : i < ws.length
      · have e1 : ws[i]? = some ws[i] := List.getElem?_eq_getElem hl
        refine wp_bnd (wp_of (a := some ws[i]) (S' := S) (by simp only [nextW, hk, e1]) ?_)
        refine wp_bnd (wp_mono (h _ (List.getElem_mem hl)) (fun g S1 q => ?_) fun _ _ q => q)
        obtain ⟨y, S3, q1, rfl, rfl⟩ := ex_of_wp q
        have q1' : S1 = S1 := rfl
        refine wp_bnd (wp_of (a := true) (S' := S1) rfl ?_)
        refine wp_bnd (wp_of (a := f ws[i]) (S' := S3) (by unfold noX; rw [q1]) ?_)
        have := ih (i + 1) (by omega) hl
        rw [List.take_add_one, e1, List.map_append] at this
        exact this
      · have ei : i = ws.length := by omega
        subst ei
        have e1 : ws[ws.length]? = none := List.getElem?_eq_none (Nat.le_refl _)
        refine wp_bnd (wp_of (a := none) (S' := S) (by simp only [nextW, hk, e1]) ?_)
        rw [List.take_length]
        exact wp_ret q
  exact key walkFuel 0 (by simp [walkFuel]; omega) (by omega)
end
section
variable {S : Store} {n k : Nat} {l : List Nat} {x : Nat}
theorem get_at {T : Store} (i : Nat) : (S ++ T)[S.length + i]? = T[i]? := by
  rw [List.getElem?_append_right (by omega), Nat.add_sub_cancel_left]
theorem get_at0 {T : Store} : (S ++ T)[S.length]? = T[0]? := get_at 0
theorem set_at {T : Store} {o : Option Ob} (i : Nat) : (S ++ T).set (S.length + i) o = S ++ T.set i o := by
  rw [List.set_append_right _ _ (by omega), Nat.add_sub_cancel_left]
theorem set_at0 {T : Store} {o : Option Ob} : (S ++ T).set S.length o = S ++ T.set 0 o := set_at 0
/-- a live list of numbers -/
abbrev nW (l : List Nat) : List W := l.map fun i => W.dat (nD i)
theorem allDat_n : allDat (nW l) = some (l.map nD) := by
  have := allDat_map (l.map nD)
  rwa [List.map_map] at this
theorem plainAll_n {d : Nat} : ∀ l : List Nat, plainAll d (l.map nD) = true
  | [] => rfl
  | a :: l => by
    show (plain d (nD a) && plainAll d (l.map nD)) = true
    rw [plainAll_n l]
    rfl
theorem any_n : (l.map nD).any (fun z => PyData.eqv z (nD x)) = decide (x ∈ l) := by
  induction l with
  | nil => simp
  | cons a l ih =>
    rw [List.map_cons, List.any_cons, ih]
    by_cases h : x = a
    · subst h
      simp [PyData.eqv]
    · have h' : PyData.eqv (nD a) (nD x) = false := by
        simp only [PyData.eqv]
        exact beq_false_of_ne fun e => h (by omega)
      rw [h', Bool.false_or]
      by_cases h2 : x ∈ l
      · rw [decide_eq_true h2, decide_eq_true (by simp [h2])]
      · rw [decide_eq_false h2, decide_eq_false (by simp [h, h2])]
theorem notin_obj (h : S[k]? = some (some (.lst (nW l)))) : cmpOp .NotIn (.dat (nD x)) (.obj k) S = .ok (!decide (x ∈ l)) S := by
  have p : plain 1 (.list (l.map nD)) = true := plainAll_n l
  have e : isIn (.dat (nD x)) (.obj k) S = .ok (decide (x ∈ l)) S := by
    unfold isIn
    simp only [live_obj h, isDict, view1, h, allDat_n, Option.map_some]
    rw [if_pos ⟨depthOk_plain (n := 0) rfl (by decide), depthOk_plain p (by decide)⟩, any_n]
  show bnd (isIn (.dat (nD x)) (.obj k)) (fun b => ret (!b)) S = _
  unfold bnd
  rw [e]
  rfl
theorem findIdx_n : x ∈ l → (l.map nD).findIdx? (fun z => PyData.eqv z (nD x)) = some (l.idxOf x) := by
  induction l with
  | nil => intro h; cases h
  | cons a l ih =>
    intro h
    rw [List.map_cons, List.findIdx?_cons, List.idxOf_cons]
    by_cases e : a = x
    · subst e
      simp [PyData.eqv]
    · have h' : PyData.eqv (nD a) (nD x) = false := by
        simp only [PyData.eqv]
        exact beq_false_of_ne fun q => e (by omega)
      have hm : x ∈ l := by
        rcases List.mem_cons.mp h with q | q
        · exact absurd q.symm e
        · exact q
      have ne : (a == x) = false := beq_false_of_ne e
      rw [h', ih hm, ne]
      rfl
theorem wp_compN {E : Xc → Store → Prop} {e : Slots → M W} {a : W → M Slots} {Q : List W → Store → Prop} (f : Nat → W) (hk : S[k]? = some (some (.lst (nW l)))) (hn : l.length ≤ 900000)
    (h : ∀ x ∈ l, wp (a (.dat (nD x))) S (fun g S1 => wp (e g) S1 (fun y S2 => y = f x ∧ S2 = S) noE) E) (q : Q (l.map f) S) : wp (compW (fun g => ret true) e a (.obj k) walkFuel 0 []) S Q E := by
  refine wp_compO (fun w => match w with
    | .dat (.int i) => f i.toNat
    | w => w) hk (by simpa using hn) (fun w hw => ?_) (by rw [List.map_map]; exact q)
  obtain ⟨x, hx, rfl⟩ := List.mem_map.mp hw
  exact h x hx
theorem range_okN (h : n ≤ 1000000) : rangeM (.dat (nD n)) S = .ok (.list ((List.range n).map fun i => .dat (nD i))) S := by
  rw [range_ok h, rangeL_eq]
theorem recv_index (h : S[k]? = some (some (.lst (nW l)))) : recv "index" (.obj k) S = .ok () S := by
  have m : mKind "index" = some true := rfl
  simp only [recv, m, seq_obj h]
theorem index_obj (h : S[k]? = some (some (.lst (nW l)))) (hx : x ∈ l) : method (.obj k) "index" [.dat (nD x)] S = .ok (.dat (nD (l.idxOf x))) S := by
  have p : plain 1 (.list (l.map nD)) = true := plainAll_n l
  have v : view1 S (.obj k) = some (.list (l.map nD)) := by simp only [view1, h, allDat_n, Option.map_some]
  have e : idxE "index" (.obj k) [.dat (nD x)] S = .ok (.dat (nD (l.idxOf x))) S := by
    have v2 : view1 S (.dat (nD x)) = some (nD x) := rfl
    unfold idxE
    rw [if_pos rfl]
    simp only [v, v2]
    rw [if_pos ⟨depthOk_plain (n := 0) rfl (by decide), depthOk_plain p (by decide)⟩, findIdx_n hx]
  unfold method
  simp only [live_obj h]
  rw [if_neg (by decide), if_neg (by decide), e]
theorem item_nobj {i : Nat} (h : S[k]? = some (some (.lst (nW l)))) (hx : l[i]? = some x) : itemOf (.obj k) (.dat (nD i)) S = .ok (.dat (nD x)) S := by
  refine item_objN h ?_
  rw [List.getElem?_map, hx]
  rfl
theorem len_nobj {live : Bool} (h : S[k]? = some (some (.lst (nW l)))) : blt live "len" [.obj k] S = .ok (.dat (nD l.length)) S := by
  have := len_obj (live := live) h
  rwa [List.length_map] at this
theorem eq_str {a b : Str} (ha : PyData.strOk a = true) (hb : PyData.strOk b = true) : cmpOp .Eq (.dat (.str a)) (.dat (.str b)) S = .ok (decide (a = b)) S := by
  have e : cmpOp .Eq (.dat (.str a)) (.dat (.str b)) S = (if depthOk (.str a) = true ∧ depthOk (.str b) = true then Res.ok (PyData.eqv (.str a) (.str b)) S else .stuck) := rfl
  rw [e, if_pos ⟨depthOk_plain (n := 0) ha (by decide), depthOk_plain (n := 0) hb (by decide)⟩]
  simp only [PyData.eqv]
  by_cases h : a = b
  · subst h; simp
  · rw [decide_eq_false h, beq_false_of_ne h]
theorem ne_str {a b : Str} (ha : PyData.strOk a = true) (hb : PyData.strOk b = true) : cmpOp .NotEq (.dat (.str a)) (.dat (.str b)) S = .ok (!decide (a = b)) S := by
  have e : cmpOp .NotEq (.dat (.str a)) (.dat (.str b)) S = (if depthOk (.str a) = true ∧ depthOk (.str b) = true then Res.ok (!PyData.eqv (.str a) (.str b)) S else .stuck) := rfl
  rw [e, if_pos ⟨depthOk_plain (n := 0) ha (by decide), depthOk_plain (n := 0) hb (by decide)⟩]
  simp only [PyData.eqv]
  by_cases h : a = b
  · subst h; simp
  · rw [decide_eq_false h, beq_false_of_ne h]
/-- lists of truths -/
theorem eq_bools {a b : Nat → Bool} : cmpOp .Eq (.dat (lst n fun i => .bool (a i))) (.dat (lst n fun i => .bool (b i))) S = .ok (decide (∀ i, i < n → a i = b i)) S := by
  have hs : ∀ f : Nat → Bool, depthOk (lst n fun i => .bool (f i)) = true := by
    intro f
    have : ∀ l : List Nat, PyData.canLayAll0 (l.map fun i => PyData.bool (f i)) = true ∧ PyData.depthAll (l.map fun i => PyData.bool (f i)) ≤ 1 := by
      intro l
      induction l with
      | nil => simp [PyData.canLayAll0, PyData.depthAll]
      | cons x l ih =>
        simp only [List.map_cons, PyData.canLayAll0, PyData.depthAll, PyData.canLay0, PyData.depth]
        exact ⟨by simp [ih.1], by omega⟩
    have h := this (List.range n)
    have h1 : (lst n fun i => PyData.bool (f i)).canLay0 = true := by unfold lst; simp only [PyData.canLay0]; exact h.1
    have h2 : (lst n fun i => PyData.bool (f i)).depth ≤ 64 := by unfold lst; simp only [PyData.depth]; omega
    unfold depthOk SeqAt.shaped
    rw [h1, decide_eq_true h2]
    rfl
  have e : cmpOp .Eq (.dat (lst n fun i => .bool (a i))) (.dat (lst n fun i => .bool (b i))) S = (if depthOk (lst n fun i => .bool (a i)) = true ∧ depthOk (lst n fun i => .bool (b i)) = true then Res.ok (PyData.eqv (lst n fun i => .bool (a i)) (lst n fun i => .bool (b i))) S else .stuck) := rfl
  rw [e, if_pos ⟨hs a, hs b⟩]
  congr 1
  have key : ∀ l : List Nat, PyData.eqvAll (l.map fun i => PyData.bool (a i)) (l.map fun i => PyData.bool (b i)) = decide (∀ i ∈ l, a i = b i) := by
    intro l
    induction l with
    | nil => simp [PyData.eqvAll]
    | cons x l ih =>
      rw [List.map_cons, List.map_cons]
      simp only [PyData.eqvAll, PyData.eqv, ih]
      by_cases h : a x = b x
      · simp [h]
      · have : (a x == b x) = false := beq_false_of_ne h
        simp [h]
  unfold lst
  simp only [PyData.eqv, key]
  simp
end
end Mp.Q
end

section
set_option Elab.async false
set_option linter.all false
set_option maxRecDepth 100000
set_option maxHeartbeats 2000000
set_option autoImplicit false
/-! what the interpreter does with the defs, as plain combinators -/
namespace K29
open PySem L2 Mp Mp.Q
abbrev cfgOf (d : Def) : Cfg := ⟨G, d.N, d.scope, d.live⟩
/-- lively -/
def p_lively (A0 A1 : W → Slots → M Slots) (call : Str → List W → M W) (g : Slots) : M Fl :=
  seqM (bndE g (bnd (bnd (getS g 1) walkV) fun r => bnd (compW (fun g => ret true) (fun g => listM true []) (fun w => ret (List.set (wipeW g [3]) 3 (some w))) r walkFuel 0 []) fun acc => newList true acc) fun w => ret (.nx (List.set g 2 (some w)))) fun g =>
  seqM (bndE g (bnd (getS g 0) enumM) fun r => forW (fun w g => A0 w g) (fun g => seqM (bndE g (bnd (getS g 4) walkV) fun r => forW (fun w g => ret (List.set g 7 (some w))) (fun g => seqM (bndE g (bnd (bnd (getS g 2) fun x => bnd (getS g 7) fun y => itemOf x y) fun x => bnd (recv "append" x) fun _ => bnd (evsM [getS g 3]) fun ws => method x "append" ws) fun _ => ret (.nx g)) fun g =>
      ret (.nx g)) r walkFuel 0 g) fun g =>
    ret (.nx g)) r walkFuel 0 g) fun g =>
  seqM (bndE g (bnd (bnd (getS g 1) walkV) fun r => bnd (compW (fun g => ret true) (fun g => bnd (getS g 8) fun x => bnd (ret (.dat (.str "whole"))) fun y => bnd (cmpOp .Eq x y) fun k => ret (.dat (.bool k))) (fun w => ret (List.set (wipeW g [8]) 8 (some w))) r walkFuel 0 []) fun acc => newList true acc) fun w => ret (.nx (List.set g 5 (some w)))) fun g =>
  seqM (bndE g (bnd (bnd (getS g 1) enumM) fun r => bnd (compW (fun g => bnd (bnd (getS g 8) fun x => bnd (ret (.dat (.str "whole"))) fun y => bnd (cmpOp .Eq x y) fun k => ret (.dat (.bool k))) asBoolM) (fun g => getS g 3) (fun w => A1 w (wipeW g [3, 8])) r walkFuel 0 []) fun acc => newList true acc) fun w => ret (.nx (List.set g 6 (some w)))) fun g =>
  seqM (whileL (fun g => bnd (getS g 6) truth) (fun g => seqM (bndE g (bnd (getS g 6) fun x => bnd (recv "pop" x) fun _ => bnd (evsM []) fun ws => method x "pop" ws) fun w => ret (.nx (List.set g 7 (some w)))) fun g =>
    seqM (bndE g (bnd (bnd (getS g 2) fun x => bnd (getS g 7) fun y => itemOf x y) walkV) fun r => forW (fun w g => ret (List.set g 3 (some w))) (fun g => seqM (bndE g (andM [bnd (bnd (bnd (getS g 5) fun x => bnd (getS g 3) fun y => itemOf x y) truth) fun k => ret (!k), bnd (bnd (bnd (getS g 1) fun x => bnd (getS g 3) fun y => itemOf x y) fun x => bnd (ret (.dat (.str "open"))) fun y => bnd (cmpOp .Eq x y) fun k => ret (.dat (.bool k))) asBoolM]) fun k => cond k (seqM (bndE g (ret (.dat (.bool true))) fun v => bndE g (getS g 5) fun x => bndE g (getS g 3) fun y => bndE g (setItem x y v) fun _ => ret (.nx g)) fun g =>
        seqM (bndE g (bnd (getS g 6) fun x => bnd (recv "append" x) fun _ => bnd (evsM [getS g 3]) fun ws => method x "append" ws) fun _ => ret (.nx g)) fun g =>
        ret (.nx g)) (ret (.nx g))) fun g =>
      ret (.nx g)) r walkFuel 0 g) fun g =>
    ret (.nx g)) whileFuel g) fun g =>
  seqM (bndE g (getS g 5) fun w => ret (.rt w)) fun g =>
  ret (.nx g)
theorem e_lively (call : Str → List W → M W) (g : Slots) : (run call deep).blk (cfgOf d_lively) g d_lively.body = p_lively (asgTup [3, 4]) (asgTup [3, 8]) call g := by
  have h : ∃ A0 A1 : W → Slots → M Slots, (run call deep).blk (cfgOf d_lively) g d_lively.body = p_lively A0 A1 call g ∧ A0 = asgTup [3, 4] ∧ A1 = asgTup [3, 8] := ⟨_, _, rfl, asg_tupI rfl, asg_tupI rfl⟩
  obtain ⟨A0, A1, h, rfl, rfl⟩ := h
  exact h
/-- refined -/
def p_refined (A0 : W → Slots → M Slots) (call : Str → List W → M W) (g : Slots) : M Fl :=
  seqM (bndE g (alloc (.dk [])) fun w => ret (.nx (List.set g 2 (some w)))) fun g =>
  seqM (bndE g (bnd (getS g 1) walkV) fun r => forW (fun w g => ret (List.set g 3 (some w))) (fun g => seqM (bndE g (bnd (getS g 2) fun x => bnd (recv "setdefault" x) fun _ => bnd (evsM [getS g 3, bnd (evsM [getS g 2]) fun ws => blt false "len" ws]) fun ws => method x "setdefault" ws) fun _ => ret (.nx g)) fun g =>
    ret (.nx g)) r walkFuel 0 g) fun g =>
  seqM (bndE g (bnd (bnd (getS g 1) walkV) fun r => bnd (compW (fun g => ret true) (fun g => bnd (getS g 2) fun x => bnd (getS g 3) fun y => itemOf x y) (fun w => ret (List.set (wipeW g [3]) 3 (some w))) r walkFuel 0 []) fun acc => newList false acc) fun w => ret (.nx (List.set g 4 (some w)))) fun g =>
  seqM (bndE g (ret (.dat (.int 0))) fun w => ret (.nx (List.set g 5 (some w)))) fun g =>
  seqM (whileL (fun g => bnd (bnd (bnd (evsM [getS g 2]) fun ws => blt false "len" ws) fun x => bnd (getS g 5) fun y => bnd (cmpOp .NotEq x y) fun k => ret (.dat (.bool k))) asBoolM) (fun g => seqM (bndE g (bnd (evsM [getS g 2]) fun ws => blt false "len" ws) fun w => ret (.nx (List.set g 5 (some w)))) fun g =>
    seqM (bndE g (alloc (.dk [])) fun w => ret (.nx (List.set g 2 (some w)))) fun g =>
    seqM (bndE g (bnd (bnd (getS g 0) enumM) fun r => bnd (compW (fun g => ret true) (fun g => tupM [bnd (getS g 4) fun x => bnd (getS g 8) fun y => itemOf x y, bnd (getS g 4) fun x => bnd (bnd (getS g 9) fun x => bnd (ret (.dat (.int 0))) fun y => itemOf x y) fun y => itemOf x y, bnd (getS g 4) fun x => bnd (bnd (getS g 9) fun x => bnd (ret (.dat (.int 1))) fun y => itemOf x y) fun y => itemOf x y]) (fun w => A0 w (wipeW g [8, 9])) r walkFuel 0 []) fun acc => newList false acc) fun w => ret (.nx (List.set g 6 (some w)))) fun g =>
    seqM (bndE g (bnd (getS g 6) walkV) fun r => forW (fun w g => ret (List.set g 7 (some w))) (fun g => seqM (bndE g (bnd (getS g 2) fun x => bnd (recv "setdefault" x) fun _ => bnd (evsM [getS g 7, bnd (evsM [getS g 2]) fun ws => blt false "len" ws]) fun ws => method x "setdefault" ws) fun _ => ret (.nx g)) fun g =>
      ret (.nx g)) r walkFuel 0 g) fun g =>
    seqM (bndE g (bnd (bnd (getS g 6) walkV) fun r => bnd (compW (fun g => ret true) (fun g => bnd (getS g 2) fun x => bnd (getS g 7) fun y => itemOf x y) (fun w => ret (List.set (wipeW g [7]) 7 (some w))) r walkFuel 0 []) fun acc => newList false acc) fun w => ret (.nx (List.set g 4 (some w)))) fun g =>
    ret (.nx g)) whileFuel g) fun g =>
  seqM (bndE g (getS g 4) fun w => ret (.rt w)) fun g =>
  ret (.nx g)
theorem e_refined (call : Str → List W → M W) (g : Slots) : (run call deep).blk (cfgOf d_refined) g d_refined.body = p_refined (asgTup [8, 9]) call g := by
  have h : ∃ A0 : W → Slots → M Slots, (run call deep).blk (cfgOf d_refined) g d_refined.body = p_refined A0 call g ∧ A0 = asgTup [8, 9] := ⟨_, rfl, asg_tupI rfl⟩
  obtain ⟨A0, h, rfl⟩ := h
  exact h
/-- met -/
def p_met (call : Str → List W → M W) (g : Slots) : M Fl :=
  seqM (bndE g (dispM (bnd (getS g 1) fun x => bnd (getS g 2) fun y => itemOf x y) (ret (.dat (.bool true)))) fun w => ret (.nx (List.set g 3 (some w)))) fun g =>
  seqM (bndE g (listM true [getS g 2]) fun w => ret (.nx (List.set g 4 (some w)))) fun g =>
  seqM (bndE g (ret (.dat (.int 0))) fun w => ret (.nx (List.set g 5 (some w)))) fun g =>
  seqM (whileL (fun g => bnd (bnd (getS g 5) fun x => bnd (bnd (evsM [getS g 4]) fun ws => blt false "len" ws) fun y => bnd (cmpOp .Lt x y) fun k => ret (.dat (.bool k))) asBoolM) (fun g => seqM (bndE g (bnd (bnd (getS g 0) fun x => bnd (bnd (getS g 4) fun x => bnd (getS g 5) fun y => itemOf x y) fun y => itemOf x y) walkV) fun r => forW (fun w g => ret (List.set g 6 (some w))) (fun g => seqM (bndE g (bnd (bnd (bnd (getS g 1) fun x => bnd (getS g 6) fun y => itemOf x y) fun x => bnd (getS g 3) fun y => bnd (cmpOp .NotIn x y) fun k => ret (.dat (.bool k))) asBoolM) fun k => cond k (seqM (bndE g (ret (.dat (.bool true))) fun v => bndE g (getS g 3) fun x => bndE g (bnd (getS g 1) fun x => bnd (getS g 6) fun y => itemOf x y) fun y => bndE g (setItem x y v) fun _ => ret (.nx g)) fun g =>
        seqM (bndE g (bnd (getS g 4) fun x => bnd (recv "append" x) fun _ => bnd (evsM [getS g 6]) fun ws => method x "append" ws) fun _ => ret (.nx g)) fun g =>
        ret (.nx g)) (ret (.nx g))) fun g =>
      ret (.nx g)) r walkFuel 0 g) fun g =>
    seqM (augM g 5 (ret (.dat (.int 1))) .Add) fun g =>
    ret (.nx g)) whileFuel g) fun g =>
  seqM (bndE g (getS g 4) fun w => ret (.rt w)) fun g =>
  ret (.nx g)
theorem e_met (call : Str → List W → M W) (g : Slots) : (run call deep).blk (cfgOf d_met) g d_met.body = p_met call g := rfl
/-- is_met_in_order -/
def p_is_met_in_order (call : Str → List W → M W) (g : Slots) : M Fl :=
  seqM (bndE g (bnd (bnd (evsM [getS g 0, bnd (bnd (evsM [getS g 0]) fun ws => blt false "len" ws) (listRg false), ret (.dat (.int 0))]) fun ws => call "met" ws) fun x => bnd (bnd (bnd (evsM [getS g 0]) fun ws => blt false "len" ws) (listRg false)) fun y => bnd (cmpOp .Eq x y) fun k => ret (.dat (.bool k))) fun w => ret (.rt w)) fun g =>
  ret (.nx g)
theorem e_is_met_in_order (call : Str → List W → M W) (g : Slots) : (run call deep).blk (cfgOf d_is_met_in_order) g d_is_met_in_order.body = p_is_met_in_order call g := rfl
/-- is_integer -/
def p_is_integer (call : Str → List W → M W) (g : Slots) : M Fl :=
  seqM (bndE g (boolVM .And [bnd (getS g 0) (isiM "int"), bnd (bnd (getS g 0) (isiM "bool")) fun x => bnd (truth x) fun k => ret (.dat (.bool (!k)))]) fun w => ret (.rt w)) fun g =>
  ret (.nx g)
theorem e_is_integer (call : Str → List W → M W) (g : Slots) : (run call deep).blk (cfgOf d_is_integer) g d_is_integer.body = p_is_integer call g := rfl
/-- is_between -/
def p_is_between (call : Str → List W → M W) (g : Slots) : M Fl :=
  seqM (bndE g (boolVM .And [bnd (evsM [getS g 1]) fun ws => call "is_integer" ws, bnd (getS g 0) fun x => bnd (getS g 1) fun y => bnd (cmpOp .LtE x y) fun k => cond k (bnd (getS g 2) fun z => bnd (cmpOp .LtE y z) fun k => ret (.dat (.bool k))) (ret (.dat (.bool false)))]) fun w => ret (.rt w)) fun g =>
  ret (.nx g)
theorem e_is_between (call : Str → List W → M W) (g : Slots) : (run call deep).blk (cfgOf d_is_between) g d_is_between.body = p_is_between call g := rfl
/-- is_index_of -/
def p_is_index_of (call : Str → List W → M W) (g : Slots) : M Fl :=
  seqM (bndE g (bnd (evsM [ret (.dat (.int 0)), getS g 1, bnd (getS g 0) fun x => bnd (ret (.dat (.int 1))) fun y => binOp false .Sub x y]) fun ws => call "is_between" ws) fun w => ret (.rt w)) fun g =>
  ret (.nx g)
theorem e_is_index_of (call : Str → List W → M W) (g : Slots) : (run call deep).blk (cfgOf d_is_index_of) g d_is_index_of.body = p_is_index_of call g := rfl
/-- is_bits -/
def p_is_bits (call : Str → List W → M W) (g : Slots) : M Fl :=
  seqM (bndE g (boolVM .And [bnd (getS g 0) (isiM "str"), bnd (evsM [bnd (bnd (getS g 0) walkV) fun r => bnd (compW (fun g => ret true) (fun g => bnd (getS g 1) fun x => bnd (ret (.dat (.str "01"))) fun y => bnd (cmpOp .In x y) fun k => ret (.dat (.bool k))) (fun w => ret (List.set (wipeW g [1]) 1 (some w))) r walkFuel 0 []) fun acc => newList false acc]) fun ws => blt false "all" ws]) fun w => ret (.rt w)) fun g =>
  ret (.nx g)
theorem e_is_bits (call : Str → List W → M W) (g : Slots) : (run call deep).blk (cfgOf d_is_bits) g d_is_bits.body = p_is_bits call g := rfl
/-- is_tuple_of -/
def p_is_tuple_of (call : Str → List W → M W) (g : Slots) : M Fl :=
  seqM (bndE g (boolVM .And [bnd (getS g 1) (isiM "tuple"), bnd (bnd (evsM [getS g 1]) fun ws => blt false "len" ws) fun x => bnd (getS g 0) fun y => bnd (cmpOp .Eq x y) fun k => ret (.dat (.bool k))]) fun w => ret (.rt w)) fun g =>
  ret (.nx g)
theorem e_is_tuple_of (call : Str → List W → M W) (g : Slots) : (run call deep).blk (cfgOf d_is_tuple_of) g d_is_tuple_of.body = p_is_tuple_of call g := rfl
/-- check_bits -/
def p_check_bits (call : Str → List W → M W) (g : Slots) : M Fl :=
  seqM (bndE g (bnd (bnd (bnd (evsM [getS g 0]) fun ws => call "is_bits" ws) truth) fun k => ret (!k)) fun k => cond k (seqM (ret (.xc ⟨"InvalidBits", none⟩ g)) fun g =>
    ret (.nx g)) (ret (.nx g))) fun g =>
  ret (.nx g)
theorem e_check_bits (call : Str → List W → M W) (g : Slots) : (run call deep).blk (cfgOf d_check_bits) g d_check_bits.body = p_check_bits call g := rfl
/-- are_kinds_right -/
def p_are_kinds_right (A0 : W → Slots → M Slots) (call : Str → List W → M W) (g : Slots) : M Fl :=
  seqM (bndE g (bnd (evsM [getS g 0, getS g 1]) fun ws => call "lively" ws) fun w => ret (.nx (List.set g 2 (some w)))) fun g =>
  seqM (bndE g (bnd (getS g 0) fun x => bnd (getS g 1) fun y => bnd (getS g 2) fun z => zip3M x y z) fun r => forW (fun w g => A0 w g) (fun g => seqM (bndE g (andM [bnd (bnd (getS g 4) fun x => bnd (ret (.dat (.str "open"))) fun y => bnd (cmpOp .Eq x y) fun k => ret (.dat (.bool k))) asBoolM, bnd (bnd (getS g 5) truth) fun k => ret (!k)]) fun k => cond k (seqM (bndE g (ret (.dat (.bool false))) fun w => ret (.rt w)) fun g =>
      ret (.nx g)) (ret (.nx g))) fun g =>
    seqM (bndE g (andM [bnd (bnd (getS g 4) fun x => bnd (ret (.dat (.str "open"))) fun y => bnd (cmpOp .NotEq x y) fun k => ret (.dat (.bool k))) asBoolM, bnd (bnd (bnd (evsM [bnd (bnd (getS g 3) walkV) fun r => bnd (compW (fun g => ret true) (fun g => bnd (bnd (getS g 1) fun x => bnd (getS g 6) fun y => itemOf x y) fun x => bnd (ret (.dat (.str "dead"))) fun y => bnd (cmpOp .Eq x y) fun k => ret (.dat (.bool k))) (fun w => ret (List.set (wipeW g [6]) 6 (some w))) r walkFuel 0 []) fun acc => newList false acc]) fun ws => blt false "all" ws) truth) fun k => ret (!k)]) fun k => cond k (seqM (bndE g (ret (.dat (.bool false))) fun w => ret (.rt w)) fun g =>
      ret (.nx g)) (ret (.nx g))) fun g =>
    ret (.nx g)) r walkFuel 0 g) fun g =>
  seqM (bndE g (ret (.dat (.bool true))) fun w => ret (.rt w)) fun g =>
  ret (.nx g)
theorem e_are_kinds_right (call : Str → List W → M W) (g : Slots) : (run call deep).blk (cfgOf d_are_kinds_right) g d_are_kinds_right.body = p_are_kinds_right (asgTup [3, 4, 5]) call g := by
  have h : ∃ A0 : W → Slots → M Slots, (run call deep).blk (cfgOf d_are_kinds_right) g d_are_kinds_right.body = p_are_kinds_right A0 call g ∧ A0 = asgTup [3, 4, 5] := ⟨_, rfl, asg_tupI rfl⟩
  obtain ⟨A0, h, rfl⟩ := h
  exact h
/-- is_least -/
def p_is_least (A0 A1 : W → Slots → M Slots) (call : Str → List W → M W) (g : Slots) : M Fl :=
  seqM (bndE g (orM [bnd (bnd (bnd (getS g 0) (isiM "list")) truth) fun k => ret (!k), bnd (bnd (bnd (evsM [getS g 0]) fun ws => blt false "len" ws) fun x => bnd (ret (.dat (.int 0))) fun y => bnd (cmpOp .Eq x y) fun k => ret (.dat (.bool k))) asBoolM]) fun k => cond k (seqM (bndE g (ret (.dat (.bool false))) fun w => ret (.rt w)) fun g =>
    ret (.nx g)) (ret (.nx g))) fun g =>
  seqM (bndE g (bnd (getS g 0) walkV) fun r => forW (fun w g => ret (List.set g 1 (some w))) (fun g => seqM (bndE g (orM [bnd (bnd (bnd (evsM [ret (.dat (.int 3)), getS g 1]) fun ws => call "is_tuple_of" ws) truth) fun k => ret (!k), bnd (bnd (bnd (bnd (getS g 1) fun x => bnd (ret (.dat (.int 2))) fun y => itemOf x y) (isiM "str")) truth) fun k => ret (!k), bnd (bnd (bnd (getS g 1) fun x => bnd (ret (.dat (.int 2))) fun y => itemOf x y) fun x => bnd (ret (.con (.tuple [.str "open", .str "whole", .str "dead"]))) fun y => bnd (cmpOp .NotIn x y) fun k => ret (.dat (.bool k))) asBoolM]) fun k => cond k (seqM (bndE g (ret (.dat (.bool false))) fun w => ret (.rt w)) fun g =>
      ret (.nx g)) (ret (.nx g))) fun g =>
    seqM (bndE g (orM [bnd (bnd (bnd (evsM [bnd (evsM [getS g 0]) fun ws => blt false "len" ws, bnd (getS g 1) fun x => bnd (ret (.dat (.int 0))) fun y => itemOf x y]) fun ws => call "is_index_of" ws) truth) fun k => ret (!k), bnd (bnd (bnd (evsM [bnd (evsM [getS g 0]) fun ws => blt false "len" ws, bnd (getS g 1) fun x => bnd (ret (.dat (.int 1))) fun y => itemOf x y]) fun ws => call "is_index_of" ws) truth) fun k => ret (!k)]) fun k => cond k (seqM (bndE g (ret (.dat (.bool false))) fun w => ret (.rt w)) fun g =>
      ret (.nx g)) (ret (.nx g))) fun g =>
    ret (.nx g)) r walkFuel 0 g) fun g =>
  seqM (bndE g (bnd (bnd (getS g 0) walkV) fun r => bnd (compW (fun g => ret true) (fun g => tupM [getS g 4, getS g 5]) (fun w => A0 w (wipeW g [4, 5, 6])) r walkFuel 0 []) fun acc => newList false acc) fun w => ret (.nx (List.set g 2 (some w)))) fun g =>
  seqM (bndE g (bnd (bnd (getS g 0) walkV) fun r => bnd (compW (fun g => ret true) (fun g => getS g 6) (fun w => A1 w (wipeW g [4, 5, 6])) r walkFuel 0 []) fun acc => newList false acc) fun w => ret (.nx (List.set g 3 (some w)))) fun g =>
  seqM (bndE g (orM [bnd (bnd (bnd (evsM [getS g 2]) fun ws => call "is_met_in_order" ws) truth) fun k => ret (!k), bnd (bnd (bnd (evsM [getS g 2, getS g 3]) fun ws => call "are_kinds_right" ws) truth) fun k => ret (!k)]) fun k => cond k (seqM (bndE g (ret (.dat (.bool false))) fun w => ret (.rt w)) fun g =>
    ret (.nx g)) (ret (.nx g))) fun g =>
  seqM (bndE g (bnd (bnd (bnd (evsM [getS g 2, getS g 3]) fun ws => call "refined" ws) lenSet) fun x => bnd (bnd (evsM [getS g 0]) fun ws => blt false "len" ws) fun y => bnd (cmpOp .Eq x y) fun k => ret (.dat (.bool k))) fun w => ret (.rt w)) fun g =>
  ret (.nx g)
theorem e_is_least (call : Str → List W → M W) (g : Slots) : (run call deep).blk (cfgOf d_is_least) g d_is_least.body = p_is_least (asgTup [4, 5, 6]) (asgTup [4, 5, 6]) call g := by
  have h : ∃ A0 A1 : W → Slots → M Slots, (run call deep).blk (cfgOf d_is_least) g d_is_least.body = p_is_least A0 A1 call g ∧ A0 = asgTup [4, 5, 6] ∧ A1 = asgTup [4, 5, 6] := ⟨_, _, rfl, asg_tupI rfl, asg_tupI rfl⟩
  obtain ⟨A0, A1, h, rfl, rfl⟩ := h
  exact h
/-- check_acceptor -/
def p_check_acceptor (call : Str → List W → M W) (g : Slots) : M Fl :=
  seqM (bndE g (bnd (bnd (bnd (evsM [getS g 0]) fun ws => call "is_least" ws) truth) fun k => ret (!k)) fun k => cond k (seqM (ret (.xc ⟨"InvalidAcceptor", none⟩ g)) fun g =>
    ret (.nx g)) (ret (.nx g))) fun g =>
  ret (.nx g)
theorem e_check_acceptor (call : Str → List W → M W) (g : Slots) : (run call deep).blk (cfgOf d_check_acceptor) g d_check_acceptor.body = p_check_acceptor call g := rfl
/-- read_answer -/
def p_read_answer (call : Str → List W → M W) (g : Slots) : M Fl :=
  seqM (bndE g (ret (.dat (.int 0))) fun w => ret (.nx (List.set g 2 (some w)))) fun g =>
  seqM (bndE g (ret (.dat (.int 0))) fun w => ret (.nx (List.set g 3 (some w)))) fun g =>
  seqM (whileL (fun g => andM [bnd (bnd (bnd (bnd (getS g 0) fun x => bnd (getS g 2) fun y => itemOf x y) fun x => bnd (ret (.dat (.int 2))) fun y => itemOf x y) fun x => bnd (ret (.dat (.str "open"))) fun y => bnd (cmpOp .Eq x y) fun k => ret (.dat (.bool k))) asBoolM, bnd (bnd (getS g 3) fun x => bnd (bnd (evsM [getS g 1]) fun ws => blt false "len" ws) fun y => bnd (cmpOp .Lt x y) fun k => ret (.dat (.bool k))) asBoolM]) (fun g => seqM (bndE g (bnd (bnd (getS g 0) fun x => bnd (getS g 2) fun y => itemOf x y) fun x => bnd (bnd (evsM [bnd (getS g 1) fun x => bnd (getS g 3) fun y => itemOf x y]) fun ws => blt false "int" ws) fun y => itemOf x y) fun w => ret (.nx (List.set g 2 (some w)))) fun g =>
    seqM (augM g 3 (ret (.dat (.int 1))) .Add) fun g =>
    ret (.nx g)) whileFuel g) fun g =>
  seqM (bndE g (bnd (bnd (bnd (bnd (getS g 0) fun x => bnd (getS g 2) fun y => itemOf x y) fun x => bnd (ret (.dat (.int 2))) fun y => itemOf x y) fun x => bnd (ret (.dat (.str "open"))) fun y => bnd (cmpOp .Eq x y) fun k => ret (.dat (.bool k))) asBoolM) fun k => cond k (seqM (bndE g (tupM [ret (.dat (.str "more"))]) fun w => ret (.rt w)) fun g =>
    ret (.nx g)) (ret (.nx g))) fun g =>
  seqM (bndE g (tupM [bnd (bnd (getS g 0) fun x => bnd (getS g 2) fun y => itemOf x y) fun x => bnd (ret (.dat (.int 2))) fun y => itemOf x y, getS g 3]) fun w => ret (.rt w)) fun g =>
  ret (.nx g)
theorem e_read_answer (call : Str → List W → M W) (g : Slots) : (run call deep).blk (cfgOf d_read_answer) g d_read_answer.body = p_read_answer call g := rfl
/-- acceptor_read -/
def p_acceptor_read (call : Str → List W → M W) (g : Slots) : M Fl :=
  seqM (bndE g (bnd (evsM [getS g 0]) fun ws => call "check_acceptor" ws) fun _ => ret (.nx g)) fun g =>
  seqM (bndE g (bnd (evsM [getS g 1]) fun ws => call "check_bits" ws) fun _ => ret (.nx g)) fun g =>
  seqM (bndE g (bnd (evsM [getS g 0, getS g 1]) fun ws => call "read_answer" ws) fun w => ret (.rt w)) fun g =>
  ret (.nx g)
theorem e_acceptor_read (call : Str → List W → M W) (g : Slots) : (run call deep).blk (cfgOf d_acceptor_read) g d_acceptor_read.body = p_acceptor_read call g := rfl
/-- _law_drops -/
def p_law_drops (call : Str → List W → M W) (g : Slots) : M Fl :=
  seqM (bndE g (listM true []) fun w => ret (.nx (List.set g 2 (some w)))) fun g =>
  seqM (bndE g (ret (.dat (.int 0))) fun w => ret (.nx (List.set g 3 (some w)))) fun g =>
  seqM (bndE g (bnd (bnd (bnd (evsM [bnd (evsM [getS g 0]) fun ws => blt false "int" ws]) fun ws => blt false "abs" ws) fun x => bnd (bnd (ret (.dat (.int 10))) fun x => bnd (ret (.dat (.int 18))) fun y => binOp false .Pow x y) fun y => bnd (cmpOp .GtE x y) fun k => ret (.dat (.bool k))) asBoolM) fun k => cond k (seqM (bndE g (bnd (evsM [bnd (evsM [getS g 0]) fun ws => blt false "int" ws]) fun ws => blt false "abs" ws) fun w => ret (.nx (List.set g 3 (some w)))) fun g =>
    ret (.nx g)) (ret (.nx g))) fun g =>
  seqM (bndE g (bnd (bnd (bnd (evsM [getS g 0]) fun ws => blt false "int" ws) fun x => bnd (ret (.dat (.int 2147483629))) fun y => binOp false .Mod x y) fun x => bnd (ret (.dat (.int 11))) fun y => binOp false .Add x y) fun w => ret (.nx (List.set g 4 (some w)))) fun g =>
  seqM (bndE g (bnd (getS g 1) rangeM) fun r => forW (fun w g => ret (List.set g 5 (some w))) (fun g => seqM (bndE g (bnd (bnd (getS g 3) fun x => bnd (ret (.dat (.int 0))) fun y => bnd (cmpOp .Gt x y) fun k => ret (.dat (.bool k))) asBoolM) fun k => cond k (seqM (bndE g (bnd (getS g 2) fun x => bnd (recv "append" x) fun _ => bnd (evsM [bnd (bnd (evsM [getS g 3]) fun ws => blt false "int" ws) fun x => bnd (ret (.dat (.int 27720))) fun y => binOp false .Mod x y]) fun ws => method x "append" ws) fun _ => ret (.nx g)) fun g =>
      seqM (bndE g (bnd (getS g 3) fun x => bnd (ret (.dat (.int 27720))) fun y => binOp false .FloorDiv x y) fun w => ret (.nx (List.set g 3 (some w)))) fun g =>
      ret (.nx g)) (seqM (bndE g (bnd (bnd (evsM [bnd (bnd (bnd (bnd (getS g 4) fun x => bnd (ret (.dat (.int 16807))) fun y => binOp false .Mult x y) fun x => bnd (getS g 0) fun y => binOp false .Add x y) fun x => bnd (bnd (bnd (bnd (ret (.dat (.int 9))) fun x => bnd (getS g 5) fun y => binOp false .Mult x y) fun x => bnd (getS g 5) fun y => binOp false .Mult x y) fun x => bnd (getS g 5) fun y => binOp false .Mult x y) fun y => binOp false .Add x y) fun x => bnd (ret (.dat (.int 5))) fun y => binOp false .Add x y]) fun ws => blt false "int" ws) fun x => bnd (ret (.dat (.int 2147483647))) fun y => binOp false .Mod x y) fun w => ret (.nx (List.set g 4 (some w)))) fun g =>
      seqM (bndE g (bnd (getS g 2) fun x => bnd (recv "append" x) fun _ => bnd (evsM [bnd (bnd (bnd (bnd (evsM [bnd (getS g 4) fun x => bnd (bnd (bnd (getS g 4) fun x => bnd (ret (.dat (.int 16))) fun y => binOp false .FloorDiv x y) fun x => bnd (ret (.dat (.int 3))) fun y => binOp false .Add x y) fun y => binOp false .Mult x y]) fun ws => blt false "int" ws) fun x => bnd (ret (.dat (.int 2147483587))) fun y => binOp false .Mod x y) fun x => bnd (ret (.dat (.int 5))) fun y => binOp false .FloorDiv x y) fun x => bnd (ret (.dat (.int 27720))) fun y => binOp false .Mod x y]) fun ws => method x "append" ws) fun _ => ret (.nx g)) fun g =>
      ret (.nx g))) fun g =>
    ret (.nx g)) r walkFuel 0 g) fun g =>
  seqM (bndE g (getS g 2) fun w => ret (.rt w)) fun g =>
  ret (.nx g)
theorem e_law_drops (call : Str → List W → M W) (g : Slots) : (run call deep).blk (cfgOf d__law_drops) g d__law_drops.body = p_law_drops call g := rfl
/-- _law_take -/
def p_law_take (call : Str → List W → M W) (g : Slots) : M Fl :=
  seqM (bndE g (bnd (getS g 0) fun x => bnd (ret (.dat (.int 0))) fun y => itemOf x y) fun w => ret (.nx (List.set g 2 (some w)))) fun g =>
  seqM (bndE g (bnd (getS g 2) fun x => bnd (ret (.dat (.int 1))) fun y => binOp false .Add x y) fun v => bndE g (getS g 0) fun x => bndE g (ret (.dat (.int 0))) fun y => bndE g (setItem x y v) fun _ => ret (.nx g)) fun g =>
  seqM (bndE g (bnd (bnd (evsM [bnd (bnd (getS g 0) fun x => bnd (bnd (ret (.dat (.int 1))) fun x => bnd (bnd (bnd (evsM [getS g 2]) fun ws => blt false "int" ws) fun x => bnd (bnd (bnd (evsM [getS g 0]) fun ws => blt false "len" ws) fun x => bnd (ret (.dat (.int 1))) fun y => binOp false .Sub x y) fun y => binOp false .Mod x y) fun y => binOp false .Add x y) fun y => itemOf x y) fun x => bnd (bnd (bnd (getS g 2) fun x => bnd (bnd (bnd (evsM [getS g 0]) fun ws => blt false "len" ws) fun x => bnd (ret (.dat (.int 1))) fun y => binOp false .Sub x y) fun y => binOp false .FloorDiv x y) fun x => bnd (ret (.dat (.int 7))) fun y => binOp false .Mult x y) fun y => binOp false .Add x y]) fun ws => blt false "int" ws) fun x => bnd (getS g 1) fun y => binOp false .Mod x y) fun w => ret (.rt w)) fun g =>
  ret (.nx g)
theorem e_law_take (call : Str → List W → M W) (g : Slots) : (run call deep).blk (cfgOf d__law_take) g d__law_take.body = p_law_take call g := rfl
/-- _law_same -/
def p_law_same (call : Str → List W → M W) (g : Slots) : M Fl :=
  seqM (bndE g (boolVM .And [bnd (getS g 0) fun x => bnd (getS g 1) fun y => bnd (cmpOp .Eq x y) fun k => ret (.dat (.bool k)), bnd (bnd (evsM [getS g 0]) fun ws => blt false "repr" ws) fun x => bnd (bnd (evsM [getS g 1]) fun ws => blt false "repr" ws) fun y => bnd (cmpOp .Eq x y) fun k => ret (.dat (.bool k))]) fun w => ret (.rt w)) fun g =>
  ret (.nx g)
theorem e_law_same (call : Str → List W → M W) (g : Slots) : (run call deep).blk (cfgOf d__law_same) g d__law_same.body = p_law_same call g := rfl
/-- _law_says -/
def p_law_says (call : Str → List W → M W) (g : Slots) : M Fl :=
  seqM (bndE g (boolVM .And [bnd (getS g 0) (isiM "bool"), bnd (getS g 0) fun x => bnd (getS g 1) fun y => bnd (cmpOp .Eq x y) fun k => ret (.dat (.bool k))]) fun w => ret (.rt w)) fun g =>
  ret (.nx g)
theorem e_law_says (call : Str → List W → M W) (g : Slots) : (run call deep).blk (cfgOf d__law_says) g d__law_says.body = p_law_says call g := rfl
/-- _law_formed -/
def p_law_formed (call : Str → List W → M W) (g : Slots) : M Fl :=
  seqM (bndE g (orM [bnd (bnd (bnd (getS g 0) (isiM "list")) truth) fun k => ret (!k), bnd (bnd (getS g 0) fun x => bnd (listM false []) fun y => bnd (cmpOp .Eq x y) fun k => ret (.dat (.bool k))) asBoolM]) fun k => cond k (seqM (bndE g (ret (.dat (.bool false))) fun w => ret (.rt w)) fun g =>
    ret (.nx g)) (ret (.nx g))) fun g =>
  seqM (bndE g (bnd (getS g 0) walkV) fun r => forW (fun w g => ret (List.set g 1 (some w))) (fun g => seqM (bndE g (orM [bnd (bnd (bnd (getS g 1) (isiM "tuple")) truth) fun k => ret (!k), bnd (bnd (bnd (evsM [getS g 1]) fun ws => blt false "len" ws) fun x => bnd (ret (.dat (.int 3))) fun y => bnd (cmpOp .NotEq x y) fun k => ret (.dat (.bool k))) asBoolM, bnd (bnd (bnd (getS g 1) fun x => bnd (ret (.dat (.int 2))) fun y => itemOf x y) fun x => bnd (listM false [ret (.dat (.str "open")), ret (.dat (.str "whole")), ret (.dat (.str "dead"))]) fun y => bnd (cmpOp .NotIn x y) fun k => ret (.dat (.bool k))) asBoolM]) fun k => cond k (seqM (bndE g (ret (.dat (.bool false))) fun w => ret (.rt w)) fun g =>
      ret (.nx g)) (ret (.nx g))) fun g =>
    seqM (bndE g (bnd (bnd (getS g 1) fun x => bnd (ret none) fun l => bnd (optM (ret (.dat (.int 2)))) fun h => sliceOf false x l h) walkV) fun r => forW (fun w g => ret (List.set g 2 (some w))) (fun g => seqM (bndE g (orM [bnd (bnd (bnd (getS g 2) (isiM "int")) truth) fun k => ret (!k), bnd (bnd (getS g 2) (isiM "bool")) truth, bnd (bnd (bnd (ret (.dat (.int 0))) fun x => bnd (getS g 2) fun y => bnd (cmpOp .LtE x y) fun k => cond k (bnd (bnd (evsM [getS g 0]) fun ws => blt false "len" ws) fun z => bnd (cmpOp .Lt y z) fun k => ret (.dat (.bool k))) (ret (.dat (.bool false)))) asBoolM) fun k => ret (!k)]) fun k => cond k (seqM (bndE g (ret (.dat (.bool false))) fun w => ret (.rt w)) fun g =>
        ret (.nx g)) (ret (.nx g))) fun g =>
      ret (.nx g)) r walkFuel 0 g) fun g =>
    ret (.nx g)) r walkFuel 0 g) fun g =>
  seqM (bndE g (ret (.dat (.bool true))) fun w => ret (.rt w)) fun g =>
  ret (.nx g)
theorem e_law_formed (call : Str → List W → M W) (g : Slots) : (run call deep).blk (cfgOf d__law_formed) g d__law_formed.body = p_law_formed call g := rfl
/-- _law_classes -/
def p_law_classes (A0 A1 : W → Slots → M Slots) (call : Str → List W → M W) (g : Slots) : M Fl :=
  seqM (bndE g (listM false []) fun w => ret (.nx (List.set g 2 (some w)))) fun g =>
  seqM (bndE g (bnd (bnd (bnd (evsM [getS g 0]) fun ws => blt false "len" ws) fun x => bnd (ret (.dat (.int 1))) fun y => binOp false .Add x y) rangeM) fun r => forW (fun w g => ret (List.set g 3 (some w))) (fun g => seqM (bndE g (alloc (.dk [])) fun w => ret (.nx (List.set g 4 (some w)))) fun g =>
    seqM (bndE g (bnd (getS g 1) enumM) fun r => forW (fun w g => A0 w g) (fun g => seqM (bndE g (bnd (getS g 4) fun x => bnd (recv "setdefault" x) fun _ => bnd (evsM [getS g 6, getS g 5]) fun ws => method x "setdefault" ws) fun _ => ret (.nx g)) fun g =>
      ret (.nx g)) r walkFuel 0 g) fun g =>
    seqM (bndE g (bnd (bnd (getS g 1) walkV) fun r => bnd (compW (fun g => ret true) (fun g => bnd (getS g 4) fun x => bnd (getS g 6) fun y => itemOf x y) (fun w => ret (List.set (wipeW g [6]) 6 (some w))) r walkFuel 0 []) fun acc => newList false acc) fun w => ret (.nx (List.set g 7 (some w)))) fun g =>
    seqM (bndE g (bnd (bnd (getS g 7) fun x => bnd (getS g 2) fun y => bnd (cmpOp .Eq x y) fun k => ret (.dat (.bool k))) asBoolM) fun k => cond k (seqM (ret (.bk g)) fun g =>
      ret (.nx g)) (ret (.nx g))) fun g =>
    seqM (bndE g (getS g 7) fun w => ret (.nx (List.set g 2 (some w)))) fun g =>
    seqM (bndE g (bnd (bnd (getS g 0) enumM) fun r => bnd (compW (fun g => ret true) (fun g => tupM [bnd (getS g 2) fun x => bnd (getS g 5) fun y => itemOf x y, bnd (getS g 2) fun x => bnd (bnd (getS g 8) fun x => bnd (ret (.dat (.int 0))) fun y => itemOf x y) fun y => itemOf x y, bnd (getS g 2) fun x => bnd (bnd (getS g 8) fun x => bnd (ret (.dat (.int 1))) fun y => itemOf x y) fun y => itemOf x y]) (fun w => A1 w (wipeW g [5, 8])) r walkFuel 0 []) fun acc => newList false acc) fun w => ret (.nx (List.set g 1 (some w)))) fun g =>
    ret (.nx g)) r walkFuel 0 g) fun g =>
  seqM (bndE g (getS g 2) fun w => ret (.rt w)) fun g =>
  ret (.nx g)
theorem e_law_classes (call : Str → List W → M W) (g : Slots) : (run call deep).blk (cfgOf d__law_classes) g d__law_classes.body = p_law_classes (asgTup [5, 6]) (asgTup [5, 8]) call g := by
  have h : ∃ A0 A1 : W → Slots → M Slots, (run call deep).blk (cfgOf d__law_classes) g d__law_classes.body = p_law_classes A0 A1 call g ∧ A0 = asgTup [5, 6] ∧ A1 = asgTup [5, 8] := ⟨_, _, rfl, asg_tupI rfl, asg_tupI rfl⟩
  obtain ⟨A0, A1, h, rfl, rfl⟩ := h
  exact h
/-- _law_least -/
def p_law_least (call : Str → List W → M W) (g : Slots) : M Fl :=
  seqM (bndE g (bnd (bnd (getS g 0) walkV) fun r => bnd (compW (fun g => ret true) (fun g => bnd (bnd (getS g 12) fun x => bnd (ret (.dat (.int 2))) fun y => itemOf x y) fun x => bnd (ret (.dat (.str "whole"))) fun y => bnd (cmpOp .Eq x y) fun k => ret (.dat (.bool k))) (fun w => ret (List.set (wipeW g [12]) 12 (some w))) r walkFuel 0 []) fun acc => newList false acc) fun w => ret (.nx (List.set g 2 (some w)))) fun g =>
  seqM (bndE g (bnd (bnd (evsM [getS g 0]) fun ws => blt false "len" ws) rangeM) fun r => forW (fun w g => ret (List.set g 3 (some w))) (fun g => seqM (bndE g (bnd (bnd (getS g 0) walkV) fun r => bnd (compW (fun g => ret true) (fun g => boolVM .Or [bnd (bnd (getS g 12) fun x => bnd (ret (.dat (.int 2))) fun y => itemOf x y) fun x => bnd (ret (.dat (.str "whole"))) fun y => bnd (cmpOp .Eq x y) fun k => ret (.dat (.bool k)), boolVM .And [bnd (bnd (getS g 12) fun x => bnd (ret (.dat (.int 2))) fun y => itemOf x y) fun x => bnd (ret (.dat (.str "open"))) fun y => bnd (cmpOp .Eq x y) fun k => ret (.dat (.bool k)), boolVM .Or [bnd (getS g 2) fun x => bnd (bnd (getS g 12) fun x => bnd (ret (.dat (.int 0))) fun y => itemOf x y) fun y => itemOf x y, bnd (getS g 2) fun x => bnd (bnd (getS g 12) fun x => bnd (ret (.dat (.int 1))) fun y => itemOf x y) fun y => itemOf x y]]]) (fun w => ret (List.set (wipeW g [12]) 12 (some w))) r walkFuel 0 []) fun acc => newList false acc) fun w => ret (.nx (List.set g 10 (some w)))) fun g =>
    seqM (bndE g (bnd (bnd (getS g 10) fun x => bnd (getS g 2) fun y => bnd (cmpOp .Eq x y) fun k => ret (.dat (.bool k))) asBoolM) fun k => cond k (seqM (ret (.bk g)) fun g =>
      ret (.nx g)) (ret (.nx g))) fun g =>
    seqM (bndE g (getS g 10) fun w => ret (.nx (List.set g 2 (some w)))) fun g =>
    ret (.nx g)) r walkFuel 0 g) fun g =>
  seqM (bndE g (bnd (evsM [getS g 0]) fun ws => blt false "len" ws) fun w => ret (.nx (List.set g 4 (some w)))) fun g =>
  seqM (bndE g (bnd (bnd (bnd (getS g 4) rangeM) fun r => bnd (compW (fun g => ret true) (fun g => bnd (bnd (bnd (getS g 2) fun x => bnd (getS g 14) fun y => itemOf x y) truth) fun k => cond k (bnd (bnd (getS g 0) fun x => bnd (getS g 14) fun y => itemOf x y) fun x => bnd (ret (.dat (.int 2))) fun y => itemOf x y) (ret (.dat (.str "dead")))) (fun w => ret (List.set (wipeW g [14]) 14 (some w))) r walkFuel 0 []) fun acc => newList false acc) fun x => bnd (listM false [ret (.dat (.str "dead"))]) fun y => binOp false .Add x y) fun w => ret (.nx (List.set g 5 (some w)))) fun g =>
  seqM (bndE g (bnd (bnd (bnd (getS g 4) rangeM) fun r => bnd (compW (fun g => ret true) (fun g => bnd (bnd (bnd (bnd (getS g 5) fun x => bnd (getS g 13) fun y => itemOf x y) fun x => bnd (ret (.dat (.str "open"))) fun y => bnd (cmpOp .Eq x y) fun k => ret (.dat (.bool k))) asBoolM) fun k => cond k (tupM [bnd (bnd (getS g 0) fun x => bnd (getS g 13) fun y => itemOf x y) fun x => bnd (ret (.dat (.int 0))) fun y => itemOf x y, bnd (bnd (getS g 0) fun x => bnd (getS g 13) fun y => itemOf x y) fun x => bnd (ret (.dat (.int 1))) fun y => itemOf x y]) (tupM [getS g 4, getS g 4])) (fun w => ret (List.set (wipeW g [13]) 13 (some w))) r walkFuel 0 []) fun acc => newList false acc) fun x => bnd (listM false [tupM [getS g 4, getS g 4]]) fun y => binOp false .Add x y) fun w => ret (.nx (List.set g 6 (some w)))) fun g =>
  seqM (bndE g (bnd (evsM [getS g 6, getS g 5]) fun ws => call "_law_classes" ws) fun w => ret (.nx (List.set g 7 (some w)))) fun g =>
  seqM (bndE g (listM true [bnd (getS g 7) fun x => bnd (getS g 1) fun y => itemOf x y]) fun w => ret (.nx (List.set g 8 (some w)))) fun g =>
  seqM (bndE g (bnd (bnd (getS g 4) fun x => bnd (ret (.dat (.int 1))) fun y => binOp false .Add x y) rangeM) fun r => forW (fun w g => ret (List.set g 3 (some w))) (fun g => seqM (bndE g (bnd (bnd (getS g 3) fun x => bnd (bnd (evsM [getS g 8]) fun ws => blt false "len" ws) fun y => bnd (cmpOp .Lt x y) fun k => ret (.dat (.bool k))) asBoolM) fun k => cond k (seqM (bndE g (bnd (bnd (getS g 6) fun x => bnd (bnd (getS g 8) fun x => bnd (getS g 3) fun y => itemOf x y) fun y => itemOf x y) walkV) fun r => forW (fun w g => ret (List.set g 11 (some w))) (fun g => seqM (bndE g (bnd (bnd (bnd (getS g 7) fun x => bnd (getS g 11) fun y => itemOf x y) fun x => bnd (getS g 8) fun y => bnd (cmpOp .NotIn x y) fun k => ret (.dat (.bool k))) asBoolM) fun k => cond k (seqM (bndE g (bnd (getS g 8) fun x => bnd (recv "append" x) fun _ => bnd (evsM [bnd (getS g 7) fun x => bnd (getS g 11) fun y => itemOf x y]) fun ws => method x "append" ws) fun _ => ret (.nx g)) fun g =>
          ret (.nx g)) (ret (.nx g))) fun g =>
        ret (.nx g)) r walkFuel 0 g) fun g =>
      ret (.nx g)) (ret (.nx g))) fun g =>
    ret (.nx g)) r walkFuel 0 g) fun g =>
  seqM (bndE g (bnd (bnd (getS g 8) walkV) fun r => bnd (compW (fun g => ret true) (fun g => tupM [bnd (getS g 8) fun x => bnd (recv "index" x) fun _ => bnd (evsM [bnd (getS g 7) fun x => bnd (bnd (bnd (getS g 6) fun x => bnd (getS g 13) fun y => itemOf x y) fun x => bnd (ret (.dat (.int 0))) fun y => itemOf x y) fun y => itemOf x y]) fun ws => method x "index" ws, bnd (getS g 8) fun x => bnd (recv "index" x) fun _ => bnd (evsM [bnd (getS g 7) fun x => bnd (bnd (bnd (getS g 6) fun x => bnd (getS g 13) fun y => itemOf x y) fun x => bnd (ret (.dat (.int 1))) fun y => itemOf x y) fun y => itemOf x y]) fun ws => method x "index" ws, bnd (getS g 5) fun x => bnd (getS g 13) fun y => itemOf x y]) (fun w => ret (List.set (wipeW g [13]) 13 (some w))) r walkFuel 0 []) fun acc => newList false acc) fun w => ret (.nx (List.set g 9 (some w)))) fun g =>
  seqM (bndE g (getS g 9) fun w => ret (.rt w)) fun g =>
  ret (.nx g)
theorem e_law_least (call : Str → List W → M W) (g : Slots) : (run call deep).blk (cfgOf d__law_least) g d__law_least.body = p_law_least call g := rfl
/-- _law_rows -/
def p_law_rows (call : Str → List W → M W) (g : Slots) : M Fl :=
  seqM (bndE g (bnd (ret (.dat (.int 1))) fun x => bnd (bnd (evsM [getS g 0, getS g 1]) fun ws => call "_law_take" ws) fun y => binOp false .Add x y) fun w => ret (.nx (List.set g 2 (some w)))) fun g =>
  seqM (bndE g (bnd (evsM [bnd (bnd (evsM [getS g 0, ret (.dat (.int 3))]) fun ws => call "_law_take" ws) fun x => bnd (ret (.dat (.int 0))) fun y => bnd (cmpOp .Eq x y) fun k => ret (.dat (.bool k))]) fun ws => blt false "int" ws) fun w => ret (.nx (List.set g 3 (some w)))) fun g =>
  seqM (bndE g (listM true []) fun w => ret (.nx (List.set g 4 (some w)))) fun g =>
  seqM (bndE g (bnd (getS g 2) rangeM) fun r => forW (fun w g => ret (List.set g 5 (some w))) (fun g => seqM (bndE g (listM true []) fun w => ret (.nx (List.set g 6 (some w)))) fun g =>
    seqM (bndE g (bnd (ret (.dat (.int 2))) rangeM) fun r => forW (fun w g => ret (List.set g 7 (some w))) (fun g => seqM (bndE g (bnd (bnd (evsM [getS g 0, ret (.dat (.int 8))]) fun ws => call "_law_take" ws) fun x => bnd (getS g 3) fun y => binOp false .Add x y) fun w => ret (.nx (List.set g 8 (some w)))) fun g =>
      seqM (bndE g (bnd (evsM [getS g 0, getS g 2]) fun ws => call "_law_take" ws) fun w => ret (.nx (List.set g 9 (some w)))) fun g =>
      seqM (bndE g (andM [bnd (bnd (getS g 8) fun x => bnd (ret (.dat (.int 4))) fun y => bnd (cmpOp .Gt x y) fun k => ret (.dat (.bool k))) asBoolM, bnd (bnd (bnd (getS g 5) fun x => bnd (ret (.dat (.int 1))) fun y => binOp false .Add x y) fun x => bnd (getS g 2) fun y => bnd (cmpOp .Lt x y) fun k => ret (.dat (.bool k))) asBoolM]) fun k => cond k (seqM (bndE g (bnd (getS g 5) fun x => bnd (ret (.dat (.int 1))) fun y => binOp false .Add x y) fun w => ret (.nx (List.set g 9 (some w)))) fun g =>
        ret (.nx g)) (ret (.nx g))) fun g =>
      seqM (bndE g (bnd (bnd (getS g 8) fun x => bnd (ret (.dat (.int 3))) fun y => bnd (cmpOp .Lt x y) fun k => ret (.dat (.bool k))) asBoolM) fun k => cond k (seqM (bndE g (bnd (getS g 2) fun x => bnd (bnd (evsM [bnd (getS g 8) fun x => bnd (ret (.dat (.int 0))) fun y => bnd (cmpOp .Eq x y) fun k => ret (.dat (.bool k))]) fun ws => blt false "int" ws) fun y => binOp false .Add x y) fun w => ret (.nx (List.set g 9 (some w)))) fun g =>
        ret (.nx g)) (ret (.nx g))) fun g =>
      seqM (bndE g (bnd (getS g 6) fun x => bnd (recv "append" x) fun _ => bnd (evsM [getS g 9]) fun ws => method x "append" ws) fun _ => ret (.nx g)) fun g =>
      ret (.nx g)) r walkFuel 0 g) fun g =>
    seqM (bndE g (bnd (getS g 4) fun x => bnd (recv "append" x) fun _ => bnd (evsM [tupM [bnd (getS g 6) fun x => bnd (ret (.dat (.int 0))) fun y => itemOf x y, bnd (getS g 6) fun x => bnd (ret (.dat (.int 1))) fun y => itemOf x y, ret (.dat (.str "open"))]]) fun ws => method x "append" ws) fun _ => ret (.nx g)) fun g =>
    ret (.nx g)) r walkFuel 0 g) fun g =>
  seqM (bndE g (bnd (getS g 4) fun x => bnd (listM false [tupM [bnd (getS g 2) fun x => bnd (ret (.dat (.int 1))) fun y => binOp false .Add x y, bnd (getS g 2) fun x => bnd (ret (.dat (.int 1))) fun y => binOp false .Add x y, ret (.dat (.str "whole"))], tupM [bnd (getS g 2) fun x => bnd (ret (.dat (.int 1))) fun y => binOp false .Add x y, bnd (getS g 2) fun x => bnd (ret (.dat (.int 1))) fun y => binOp false .Add x y, ret (.dat (.str "dead"))]]) fun y => binOp false .Add x y) fun w => ret (.rt w)) fun g =>
  ret (.nx g)
theorem e_law_rows (call : Str → List W → M W) (g : Slots) : (run call deep).blk (cfgOf d__law_rows) g d__law_rows.body = p_law_rows call g := rfl
/-- _law_judge -/
def p_law_judge (call : Str → List W → M W) (g : Slots) : M Fl :=
  seqM (bndE g (boolVM .And [bnd (evsM [getS g 0]) fun ws => call "_law_formed" ws, bnd (evsM [bnd (evsM [getS g 0, ret (.dat (.int 0))]) fun ws => call "_law_least" ws, getS g 0]) fun ws => call "_law_same" ws]) fun w => ret (.rt w)) fun g =>
  ret (.nx g)
theorem e_law_judge (call : Str → List W → M W) (g : Slots) : (run call deep).blk (cfgOf d__law_judge) g d__law_judge.body = p_law_judge call g := rfl
/-- _law_exchanged -/
def p_law_exchanged (call : Str → List W → M W) (g : Slots) : M Fl :=
  seqM (bndE g (bnd (bnd (evsM [getS g 0]) fun ws => blt true "len" ws) (listRg true)) fun w => ret (.nx (List.set g 3 (some w)))) fun g =>
  seqM (bndE g (getS g 2) fun v => bndE g (getS g 3) fun x => bndE g (getS g 1) fun y => bndE g (setItem x y v) fun _ => ret (.nx g)) fun g =>
  seqM (bndE g (getS g 1) fun v => bndE g (getS g 3) fun x => bndE g (getS g 2) fun y => bndE g (setItem x y v) fun _ => ret (.nx g)) fun g =>
  seqM (bndE g (bnd (bnd (getS g 3) walkV) fun r => bnd (compW (fun g => ret true) (fun g => tupM [bnd (getS g 3) fun x => bnd (bnd (bnd (getS g 0) fun x => bnd (getS g 4) fun y => itemOf x y) fun x => bnd (ret (.dat (.int 0))) fun y => itemOf x y) fun y => itemOf x y, bnd (getS g 3) fun x => bnd (bnd (bnd (getS g 0) fun x => bnd (getS g 4) fun y => itemOf x y) fun x => bnd (ret (.dat (.int 1))) fun y => itemOf x y) fun y => itemOf x y, bnd (bnd (getS g 0) fun x => bnd (getS g 4) fun y => itemOf x y) fun x => bnd (ret (.dat (.int 2))) fun y => itemOf x y]) (fun w => ret (List.set (wipeW g [4]) 4 (some w))) r walkFuel 0 []) fun acc => newList false acc) fun w => ret (.rt w)) fun g =>
  ret (.nx g)
theorem e_law_exchanged (call : Str → List W → M W) (g : Slots) : (run call deep).blk (cfgOf d__law_exchanged) g d__law_exchanged.body = p_law_exchanged call g := rfl
/-- _law_bent_rows -/
def p_law_bent_rows (A0 A1 A2 : W → Slots → M Slots) (call : Str → List W → M W) (g : Slots) : M Fl :=
  seqM (bndE g (bnd (evsM [getS g 1]) fun ws => blt false "len" ws) fun w => ret (.nx (List.set g 2 (some w)))) fun g =>
  seqM (bndE g (bnd (evsM [getS g 0, getS g 2]) fun ws => call "_law_take" ws) fun w => ret (.nx (List.set g 3 (some w)))) fun g =>
  seqM (bndE g (bnd (getS g 1) fun x => bnd (getS g 3) fun y => itemOf x y) fun w => bndE g (A0 w g) fun g => ret (.nx g)) fun g =>
  seqM (bndE g (bnd (evsM [getS g 0, ret (.dat (.int 9))]) fun ws => call "_law_take" ws) fun w => ret (.nx (List.set g 7 (some w)))) fun g =>
  seqM (bndE g (bnd (bnd (getS g 7) fun x => bnd (ret (.dat (.int 0))) fun y => bnd (cmpOp .Eq x y) fun k => ret (.dat (.bool k))) asBoolM) fun k => cond k (seqM (bndE g (bnd (evsM [getS g 1, getS g 3, bnd (evsM [getS g 0, getS g 2]) fun ws => call "_law_take" ws]) fun ws => call "_law_exchanged" ws) fun w => ret (.rt w)) fun g =>
    ret (.nx g)) (ret (.nx g))) fun g =>
  seqM (bndE g (bnd (bnd (getS g 7) fun x => bnd (ret (.dat (.int 1))) fun y => bnd (cmpOp .Eq x y) fun k => ret (.dat (.bool k))) asBoolM) fun k => cond k (seqM (bndE g (bnd (bnd (getS g 1) enumM) fun r => bnd (compW (fun g => ret true) (fun g => bnd (bnd (bnd (getS g 10) fun x => bnd (getS g 3) fun y => bnd (cmpOp .Eq x y) fun k => ret (.dat (.bool k))) asBoolM) fun k => cond k (tupM [getS g 2, getS g 5, getS g 6]) (getS g 11)) (fun w => A1 w (wipeW g [10, 11])) r walkFuel 0 []) fun acc => newList false acc) fun w => ret (.nx (List.set g 8 (some w)))) fun g =>
    seqM (bndE g (bnd (getS g 8) fun x => bnd (listM false [bnd (getS g 1) fun x => bnd (getS g 4) fun y => itemOf x y]) fun y => binOp false .Add x y) fun w => ret (.rt w)) fun g =>
    ret (.nx g)) (ret (.nx g))) fun g =>
  seqM (bndE g (bnd (bnd (getS g 7) fun x => bnd (ret (.dat (.int 2))) fun y => bnd (cmpOp .Eq x y) fun k => ret (.dat (.bool k))) asBoolM) fun k => cond k (seqM (bndE g (bnd (getS g 1) fun x => bnd (listM false [bnd (getS g 1) fun x => bnd (getS g 3) fun y => itemOf x y]) fun y => binOp false .Add x y) fun w => ret (.rt w)) fun g =>
    ret (.nx g)) (ret (.nx g))) fun g =>
  seqM (bndE g (bnd (bnd (getS g 7) fun x => bnd (ret (.dat (.int 3))) fun y => bnd (cmpOp .Eq x y) fun k => ret (.dat (.bool k))) asBoolM) fun k => cond k (seqM (bndE g (bnd (bnd (bnd (getS g 1) fun x => bnd (ret none) fun l => bnd (optM (getS g 3)) fun h => sliceOf false x l h) fun x => bnd (listM false [tupM [bnd (evsM [getS g 0, getS g 2]) fun ws => call "_law_take" ws, getS g 5, getS g 6]]) fun y => binOp false .Add x y) fun x => bnd (bnd (getS g 1) fun x => bnd (optM (bnd (getS g 3) fun x => bnd (ret (.dat (.int 1))) fun y => binOp false .Add x y)) fun l => bnd (ret none) fun h => sliceOf false x l h) fun y => binOp false .Add x y) fun w => ret (.rt w)) fun g =>
    ret (.nx g)) (ret (.nx g))) fun g =>
  seqM (bndE g (bnd (bnd (getS g 7) fun x => bnd (ret (.dat (.int 4))) fun y => bnd (cmpOp .Eq x y) fun k => ret (.dat (.bool k))) asBoolM) fun k => cond k (seqM (bndE g (bnd (bnd (bnd (getS g 1) fun x => bnd (ret none) fun l => bnd (optM (getS g 3)) fun h => sliceOf false x l h) fun x => bnd (listM false [tupM [getS g 4, bnd (evsM [getS g 0, getS g 2]) fun ws => call "_law_take" ws, getS g 6]]) fun y => binOp false .Add x y) fun x => bnd (bnd (getS g 1) fun x => bnd (optM (bnd (getS g 3) fun x => bnd (ret (.dat (.int 1))) fun y => binOp false .Add x y)) fun l => bnd (ret none) fun h => sliceOf false x l h) fun y => binOp false .Add x y) fun w => ret (.rt w)) fun g =>
    ret (.nx g)) (ret (.nx g))) fun g =>
  seqM (bndE g (bnd (bnd (getS g 7) fun x => bnd (ret (.dat (.int 5))) fun y => bnd (cmpOp .Eq x y) fun k => ret (.dat (.bool k))) asBoolM) fun k => cond k (seqM (bndE g (bnd (listM false [ret (.dat (.str "open")), ret (.dat (.str "whole")), ret (.dat (.str "dead"))]) fun x => bnd (bnd (evsM [getS g 0, ret (.dat (.int 3))]) fun ws => call "_law_take" ws) fun y => itemOf x y) fun w => ret (.nx (List.set g 9 (some w)))) fun g =>
    seqM (bndE g (bnd (bnd (bnd (getS g 1) fun x => bnd (ret none) fun l => bnd (optM (getS g 3)) fun h => sliceOf false x l h) fun x => bnd (listM false [tupM [getS g 4, getS g 5, getS g 9]]) fun y => binOp false .Add x y) fun x => bnd (bnd (getS g 1) fun x => bnd (optM (bnd (getS g 3) fun x => bnd (ret (.dat (.int 1))) fun y => binOp false .Add x y)) fun l => bnd (ret none) fun h => sliceOf false x l h) fun y => binOp false .Add x y) fun w => ret (.rt w)) fun g =>
    ret (.nx g)) (ret (.nx g))) fun g =>
  seqM (bndE g (bnd (bnd (getS g 7) fun x => bnd (ret (.dat (.int 6))) fun y => bnd (cmpOp .Eq x y) fun k => ret (.dat (.bool k))) asBoolM) fun k => cond k (seqM (bndE g (bnd (bnd (getS g 1) fun x => bnd (ret none) fun l => bnd (optM (getS g 3)) fun h => sliceOf false x l h) fun x => bnd (bnd (getS g 1) fun x => bnd (optM (bnd (getS g 3) fun x => bnd (ret (.dat (.int 1))) fun y => binOp false .Add x y)) fun l => bnd (ret none) fun h => sliceOf false x l h) fun y => binOp false .Add x y) fun w => ret (.rt w)) fun g =>
    ret (.nx g)) (ret (.nx g))) fun g =>
  seqM (bndE g (bnd (bnd (getS g 7) fun x => bnd (ret (.dat (.int 7))) fun y => bnd (cmpOp .Eq x y) fun k => ret (.dat (.bool k))) asBoolM) fun k => cond k (seqM (bndE g (bnd (bnd (getS g 1) walkV) fun r => bnd (compW (fun g => ret true) (fun g => tupM [getS g 5, getS g 4, getS g 6]) (fun w => A2 w (wipeW g [4, 5, 6])) r walkFuel 0 []) fun acc => newList false acc) fun w => ret (.rt w)) fun g =>
    ret (.nx g)) (ret (.nx g))) fun g =>
  seqM (bndE g (bnd (getS g 1) fun x => turned false x) fun w => ret (.rt w)) fun g =>
  ret (.nx g)
theorem e_law_bent_rows (call : Str → List W → M W) (g : Slots) : (run call deep).blk (cfgOf d__law_bent_rows) g d__law_bent_rows.body = p_law_bent_rows (asgTup [4, 5, 6]) (asgTup [10, 11]) (asgTup [4, 5, 6]) call g := by
  have h : ∃ A0 A1 A2 : W → Slots → M Slots, (run call deep).blk (cfgOf d__law_bent_rows) g d__law_bent_rows.body = p_law_bent_rows A0 A1 A2 call g ∧ A0 = asgTup [4, 5, 6] ∧ A1 = asgTup [10, 11] ∧ A2 = asgTup [4, 5, 6] := ⟨_, _, _, rfl, asg_tupI rfl, asg_tupI rfl, asg_tupI rfl⟩
  obtain ⟨A0, A1, A2, h, rfl, rfl, rfl⟩ := h
  exact h
/-- _law_odd -/
def p_law_odd (A0 : W → Slots → M Slots) (call : Str → List W → M W) (g : Slots) : M Fl :=
  seqM (bndE g (bnd (evsM [getS g 0, bnd (evsM [getS g 1]) fun ws => blt false "len" ws]) fun ws => call "_law_take" ws) fun w => ret (.nx (List.set g 2 (some w)))) fun g =>
  seqM (bndE g (bnd (getS g 1) fun x => bnd (getS g 2) fun y => itemOf x y) fun w => bndE g (A0 w g) fun g => ret (.nx g)) fun g =>
  seqM (bndE g (listM false [tupM [ret (.dat (.bool true)), getS g 4, getS g 5], tupM [getS g 3, ret (.dat (.bool false)), getS g 5], tupM [ret (.dat (.str "0")), getS g 4, getS g 5], tupM [getS g 3, ret (.dat .none), getS g 5], tupM [bnd (ret (.dat (.int 1))) negM, getS g 4, getS g 5]]) fun w => ret (.nx (List.set g 6 (some w)))) fun g =>
  seqM (bndE g (bnd (getS g 6) fun x => bnd (listM false [tupM [getS g 3, bnd (evsM [getS g 1]) fun ws => blt false "len" ws, getS g 5], tupM [getS g 3, bnd (ret (.dat (.int 10))) fun x => bnd (ret (.dat (.int 30))) fun y => binOp false .Pow x y, getS g 5], listM false [getS g 3, getS g 4, getS g 5], tupM [getS g 3, getS g 4]]) fun y => binOp false .Add x y) fun w => ret (.nx (List.set g 6 (some w)))) fun g =>
  seqM (bndE g (bnd (getS g 6) fun x => bnd (listM false [tupM [getS g 3, getS g 4, getS g 5, getS g 5], tupM [getS g 3, getS g 4, ret (.dat (.str "opened"))], tupM [getS g 3, getS g 4, ret (.dat .none)], tupM [getS g 3, getS g 4, ret (.dat (.str ""))]]) fun y => binOp false .Add x y) fun w => ret (.nx (List.set g 6 (some w)))) fun g =>
  seqM (bndE g (bnd (getS g 6) fun x => bnd (listM false [ret (.dat .none), ret (.dat (.int 5)), ret (.dat (.str "row")), tupM [], tupM [getS g 3, getS g 4, ret (.dat (.bool true))], tupM [getS g 3, getS g 4, listM false [ret (.dat (.str "open"))]]]) fun y => binOp false .Add x y) fun w => ret (.nx (List.set g 6 (some w)))) fun g =>
  seqM (bndE g (bnd (bnd (getS g 6) walkV) fun r => bnd (compW (fun g => ret true) (fun g => bnd (bnd (bnd (getS g 1) fun x => bnd (ret none) fun l => bnd (optM (getS g 2)) fun h => sliceOf false x l h) fun x => bnd (listM false [getS g 8]) fun y => binOp false .Add x y) fun x => bnd (bnd (getS g 1) fun x => bnd (optM (bnd (getS g 2) fun x => bnd (ret (.dat (.int 1))) fun y => binOp false .Add x y)) fun l => bnd (ret none) fun h => sliceOf false x l h) fun y => binOp false .Add x y) (fun w => ret (List.set (wipeW g [8]) 8 (some w))) r walkFuel 0 []) fun acc => newList false acc) fun w => ret (.nx (List.set g 7 (some w)))) fun g =>
  seqM (bndE g (bnd (getS g 7) fun x => bnd (listM false [bnd (evsM [getS g 1]) fun ws => blt false "tuple" ws, listM false [], ret (.dat .none), ret (.dat (.bool true)), ret (.dat (.int 0)), ret (.dat (.str "rows")), tupM [], listM false [listM false []], listM false [getS g 1], listM false [tupM [ret (.dat (.int 0)), ret (.dat (.int 0))]], listM false [tupM [ret (.dat (.str "open")), ret (.dat (.int 0)), ret (.dat (.int 0))]]]) fun y => binOp false .Add x y) fun w => ret (.nx (List.set g 7 (some w)))) fun g =>
  seqM (bndE g (bnd (getS g 7) fun x => bnd (bnd (evsM [getS g 0, bnd (evsM [getS g 7]) fun ws => blt false "len" ws]) fun ws => call "_law_take" ws) fun y => itemOf x y) fun w => ret (.rt w)) fun g =>
  ret (.nx g)
theorem e_law_odd (call : Str → List W → M W) (g : Slots) : (run call deep).blk (cfgOf d__law_odd) g d__law_odd.body = p_law_odd (asgTup [3, 4, 5]) call g := by
  have h : ∃ A0 : W → Slots → M Slots, (run call deep).blk (cfgOf d__law_odd) g d__law_odd.body = p_law_odd A0 call g ∧ A0 = asgTup [3, 4, 5] := ⟨_, rfl, asg_tupI rfl⟩
  obtain ⟨A0, h, rfl⟩ := h
  exact h
/-- _law_refused -/
def p_law_refused (call : Str → List W → M W) (g : Slots) : M Fl :=
  seqM (bnd (seqM (bndE g (bnd (evsM [getS g 0, ret (.dat (.str "0"))]) fun ws => call "acceptor_read" ws) fun w => ret (.nx (List.set g 1 (some w)))) fun g =>
    ret (.nx g)) (tryM G "InvalidAcceptor" fun g => .nx (List.set g 1 (some (.dat .none))))) fun g =>
  seqM (bndE g (bnd (getS g 1) fun x => bnd (ret (.dat .none)) fun y => bnd (cmpOp .Is x y) fun k => ret (.dat (.bool k))) fun w => ret (.rt w)) fun g =>
  ret (.nx g)
theorem e_law_refused (call : Str → List W → M W) (g : Slots) : (run call deep).blk (cfgOf d__law_refused) g d__law_refused.body = p_law_refused call g := rfl
/-- _law_right -/
def p_law_right (call : Str → List W → M W) (g : Slots) : M Fl :=
  seqM (bndE g (bnd (evsM [getS g 0]) fun ws => call "_law_judge" ws) fun w => ret (.nx (List.set g 1 (some w)))) fun g =>
  seqM (bndE g (bnd (evsM [getS g 0]) fun ws => blt false "repr" ws) fun w => ret (.nx (List.set g 2 (some w)))) fun g =>
  seqM (bndE g (orM [bnd (bnd (bnd (evsM [bnd (evsM [getS g 0]) fun ws => call "is_least" ws, getS g 1]) fun ws => call "_law_says" ws) truth) fun k => ret (!k), bnd (bnd (bnd (evsM [bnd (getS g 0) fun w => call "is_least" [w], getS g 1]) fun ws => call "_law_says" ws) truth) fun k => ret (!k)]) fun k => cond k (seqM (bndE g (ret (.dat (.bool false))) fun w => ret (.rt w)) fun g =>
    ret (.nx g)) (ret (.nx g))) fun g =>
  seqM (bndE g (boolVM .And [bnd (bnd (evsM [getS g 0]) fun ws => blt false "repr" ws) fun x => bnd (getS g 2) fun y => bnd (cmpOp .Eq x y) fun k => ret (.dat (.bool k)), bnd (bnd (evsM [getS g 0]) fun ws => call "_law_refused" ws) fun x => bnd (getS g 1) fun y => bnd (cmpOp .NotEq x y) fun k => ret (.dat (.bool k)), bnd (bnd (evsM [getS g 0]) fun ws => blt false "repr" ws) fun x => bnd (getS g 2) fun y => bnd (cmpOp .Eq x y) fun k => ret (.dat (.bool k))]) fun w => ret (.rt w)) fun g =>
  ret (.nx g)
theorem e_law_right (call : Str → List W → M W) (g : Slots) : (run call deep).blk (cfgOf d__law_right) g d__law_right.body = p_law_right call g := rfl
/-- law -/
def p_law (call : Str → List W → M W) (g : Slots) : M Fl :=
  seqM (bndE g (bnd (bnd (bnd (getS g 0) fun x => bnd (listM false [ret (.dat (.int 0))]) fun y => binOp false .Add x y) fun x => bnd (ret none) fun l => bnd (optM (ret (.dat (.int 6)))) fun h => sliceOf false x l h) walkV) fun r => forW (fun w g => ret (List.set g 1 (some w))) (fun g => seqM (bndE g (bnd (listM true [ret (.dat (.int 0))]) fun x => bnd (bnd (evsM [getS g 1, ret (.dat (.int 50))]) fun ws => call "_law_drops" ws) fun y => binOp true .Add x y) fun w => ret (.nx (List.set g 2 (some w)))) fun g =>
    seqM (bndE g (bnd (evsM [getS g 2, ret (.dat (.int 8))]) fun ws => call "_law_rows" ws) fun w => ret (.nx (List.set g 3 (some w)))) fun g =>
    seqM (bndE g (bnd (evsM [getS g 3, ret (.dat (.int 0))]) fun ws => call "_law_least" ws) fun w => ret (.nx (List.set g 4 (some w)))) fun g =>
    seqM (bndE g (listM false [listM false [tupM [ret (.dat (.int 0)), ret (.dat (.int 0)), ret (.dat (.str "dead"))]], listM false [tupM [ret (.dat (.int 1)), ret (.dat (.int 1)), ret (.dat (.str "whole"))], tupM [ret (.dat (.int 1)), ret (.dat (.int 1)), ret (.dat (.str "dead"))]], listM false [tupM [ret (.dat (.int 0)), ret (.dat (.int 0)), ret (.dat (.str "whole"))]], listM false [tupM [ret (.dat (.int 0)), ret (.dat (.int 0)), ret (.dat (.str "open"))]]]) fun w => ret (.nx (List.set g 5 (some w)))) fun g =>
    seqM (bndE g (bnd (getS g 5) fun x => bnd (listM false [getS g 3, getS g 4, bnd (evsM [getS g 3, bnd (evsM [getS g 2, bnd (evsM [getS g 3]) fun ws => blt false "len" ws]) fun ws => call "_law_take" ws]) fun ws => call "_law_least" ws]) fun y => binOp true .Add x y) fun w => ret (.nx (List.set g 5 (some w)))) fun g =>
    seqM (bndE g (bnd (ret (.dat (.int 4))) rangeM) fun r => forW (fun w g => ret (List.set g 6 (some w))) (fun g => seqM (bndE g (bnd (getS g 5) fun x => bnd (recv "append" x) fun _ => bnd (evsM [bnd (evsM [getS g 2, getS g 4]) fun ws => call "_law_bent_rows" ws]) fun ws => method x "append" ws) fun _ => ret (.nx g)) fun g =>
      seqM (bndE g (bnd (getS g 5) fun x => bnd (recv "append" x) fun _ => bnd (evsM [bnd (evsM [getS g 2, getS g 4]) fun ws => call "_law_odd" ws]) fun ws => method x "append" ws) fun _ => ret (.nx g)) fun g =>
      ret (.nx g)) r walkFuel 0 g) fun g =>
    seqM (bndE g (orM [bnd (bnd (bnd (evsM [getS g 4]) fun ws => call "_law_judge" ws) truth) fun k => ret (!k), bnd (bnd (bnd (evsM [bnd (getS g 5) fun x => bnd (ret (.dat (.int 0))) fun y => itemOf x y]) fun ws => call "_law_judge" ws) truth) fun k => ret (!k), bnd (bnd (bnd (evsM [bnd (getS g 5) fun x => bnd (ret (.dat (.int 1))) fun y => itemOf x y]) fun ws => call "_law_judge" ws) truth) fun k => ret (!k)]) fun k => cond k (seqM (bndE g (ret (.dat (.bool false))) fun w => ret (.rt w)) fun g =>
      ret (.nx g)) (ret (.nx g))) fun g =>
    seqM (bndE g (bnd (getS g 5) walkV) fun r => forW (fun w g => ret (List.set g 7 (some w))) (fun g => seqM (bndE g (bnd (bnd (bnd (evsM [getS g 7]) fun ws => call "_law_right" ws) truth) fun k => ret (!k)) fun k => cond k (seqM (bndE g (ret (.dat (.bool false))) fun w => ret (.rt w)) fun g =>
        ret (.nx g)) (ret (.nx g))) fun g =>
      ret (.nx g)) r walkFuel 0 g) fun g =>
    ret (.nx g)) r walkFuel 0 g) fun g =>
  seqM (bndE g (ret (.dat (.bool true))) fun w => ret (.rt w)) fun g =>
  ret (.nx g)
theorem e_law (call : Str → List W → M W) (g : Slots) : (run call deep).blk (cfgOf d_law) g d_law.body = p_law call g := rfl
end K29
end

section
set_option Elab.async false
set_option linter.all false
set_option maxRecDepth 100000
set_option maxHeartbeats 400000
set_option autoImplicit false
/-! calls of the defs -/
namespace K29
open PySem L2 Mp Mp.Q
theorem f_lively : ds.find? (fun d => decide (d.name = ("lively" : Str))) = some d_lively := rfl
theorem c_lively {n : Nat} {S : Store} {Q : W → Store → Prop} {E : Xc → Store → Prop} {w0 w1 : W} (h : wp (p_lively (asgTup [3, 4]) (asgTup [3, 8]) (calls G ds n) [some w0, some w1, none, none, none, none, none, none, none]) S (finQ S.length Q E) noE) : wp (calls G ds (n + 1) "lively" [w0, w1]) S Q E :=
  wp_call (p := (p_lively (asgTup [3, 4]) (asgTup [3, 8]))) (g := [some w0, some w1, none, none, none, none, none, none, none]) f_lively rfl e_lively rfl h
theorem f_refined : ds.find? (fun d => decide (d.name = ("refined" : Str))) = some d_refined := rfl
theorem c_refined {n : Nat} {S : Store} {Q : W → Store → Prop} {E : Xc → Store → Prop} {w0 w1 : W} (h : wp (p_refined (asgTup [8, 9]) (calls G ds n) [some w0, some w1, none, none, none, none, none, none, none, none]) S (finQ S.length Q E) noE) : wp (calls G ds (n + 1) "refined" [w0, w1]) S Q E :=
  wp_call (p := (p_refined (asgTup [8, 9]))) (g := [some w0, some w1, none, none, none, none, none, none, none, none]) f_refined rfl e_refined rfl h
theorem f_met : ds.find? (fun d => decide (d.name = ("met" : Str))) = some d_met := rfl
theorem c_met {n : Nat} {S : Store} {Q : W → Store → Prop} {E : Xc → Store → Prop} {w0 w1 w2 : W} (h : wp (p_met (calls G ds n) [some w0, some w1, some w2, none, none, none, none]) S (finQ S.length Q E) noE) : wp (calls G ds (n + 1) "met" [w0, w1, w2]) S Q E :=
  wp_call (p := (p_met)) (g := [some w0, some w1, some w2, none, none, none, none]) f_met rfl e_met rfl h
theorem f_is_met_in_order : ds.find? (fun d => decide (d.name = ("is_met_in_order" : Str))) = some d_is_met_in_order := rfl
theorem c_is_met_in_order {n : Nat} {S : Store} {Q : W → Store → Prop} {E : Xc → Store → Prop} {w0 : W} (h : wp (p_is_met_in_order (calls G ds n) [some w0]) S (finQ S.length Q E) noE) : wp (calls G ds (n + 1) "is_met_in_order" [w0]) S Q E :=
  wp_call (p := (p_is_met_in_order)) (g := [some w0]) f_is_met_in_order rfl e_is_met_in_order rfl h
theorem f_is_integer : ds.find? (fun d => decide (d.name = ("is_integer" : Str))) = some d_is_integer := rfl
theorem c_is_integer {n : Nat} {S : Store} {Q : W → Store → Prop} {E : Xc → Store → Prop} {w0 : W} (h : wp (p_is_integer (calls G ds n) [some w0]) S (finQ S.length Q E) noE) : wp (calls G ds (n + 1) "is_integer" [w0]) S Q E :=
  wp_call (p := (p_is_integer)) (g := [some w0]) f_is_integer rfl e_is_integer rfl h
theorem f_is_between : ds.find? (fun d => decide (d.name = ("is_between" : Str))) = some d_is_between := rfl
theorem c_is_between {n : Nat} {S : Store} {Q : W → Store → Prop} {E : Xc → Store → Prop} {w0 w1 w2 : W} (h : wp (p_is_between (calls G ds n) [some w0, some w1, some w2]) S (finQ S.length Q E) noE) : wp (calls G ds (n + 1) "is_between" [w0, w1, w2]) S Q E :=
  wp_call (p := (p_is_between)) (g := [some w0, some w1, some w2]) f_is_between rfl e_is_between rfl h
theorem f_is_index_of : ds.find? (fun d => decide (d.name = ("is_index_of" : Str))) = some d_is_index_of := rfl
theorem c_is_index_of {n : Nat} {S : Store} {Q : W → Store → Prop} {E : Xc → Store → Prop} {w0 w1 : W} (h : wp (p_is_index_of (calls G ds n) [some w0, some w1]) S (finQ S.length Q E) noE) : wp (calls G ds (n + 1) "is_index_of" [w0, w1]) S Q E :=
  wp_call (p := (p_is_index_of)) (g := [some w0, some w1]) f_is_index_of rfl e_is_index_of rfl h
theorem f_is_bits : ds.find? (fun d => decide (d.name = ("is_bits" : Str))) = some d_is_bits := rfl
theorem c_is_bits {n : Nat} {S : Store} {Q : W → Store → Prop} {E : Xc → Store → Prop} {w0 : W} (h : wp (p_is_bits (calls G ds n) [some w0, none]) S (finQ S.length Q E) noE) : wp (calls G ds (n + 1) "is_bits" [w0]) S Q E :=
  wp_call (p := (p_is_bits)) (g := [some w0, none]) f_is_bits rfl e_is_bits rfl h
theorem f_is_tuple_of : ds.find? (fun d => decide (d.name = ("is_tuple_of" : Str))) = some d_is_tuple_of := rfl
theorem c_is_tuple_of {n : Nat} {S : Store} {Q : W → Store → Prop} {E : Xc → Store → Prop} {w0 w1 : W} (h : wp (p_is_tuple_of (calls G ds n) [some w0, some w1]) S (finQ S.length Q E) noE) : wp (calls G ds (n + 1) "is_tuple_of" [w0, w1]) S Q E :=
  wp_call (p := (p_is_tuple_of)) (g := [some w0, some w1]) f_is_tuple_of rfl e_is_tuple_of rfl h
theorem f_check_bits : ds.find? (fun d => decide (d.name = ("check_bits" : Str))) = some d_check_bits := rfl
theorem c_check_bits {n : Nat} {S : Store} {Q : W → Store → Prop} {E : Xc → Store → Prop} {w0 : W} (h : wp (p_check_bits (calls G ds n) [some w0]) S (finQ S.length Q E) noE) : wp (calls G ds (n + 1) "check_bits" [w0]) S Q E :=
  wp_call (p := (p_check_bits)) (g := [some w0]) f_check_bits rfl e_check_bits rfl h
theorem f_are_kinds_right : ds.find? (fun d => decide (d.name = ("are_kinds_right" : Str))) = some d_are_kinds_right := rfl
theorem c_are_kinds_right {n : Nat} {S : Store} {Q : W → Store → Prop} {E : Xc → Store → Prop} {w0 w1 : W} (h : wp (p_are_kinds_right (asgTup [3, 4, 5]) (calls G ds n) [some w0, some w1, none, none, none, none, none]) S (finQ S.length Q E) noE) : wp (calls G ds (n + 1) "are_kinds_right" [w0, w1]) S Q E :=
  wp_call (p := (p_are_kinds_right (asgTup [3, 4, 5]))) (g := [some w0, some w1, none, none, none, none, none]) f_are_kinds_right rfl e_are_kinds_right rfl h
theorem f_is_least : ds.find? (fun d => decide (d.name = ("is_least" : Str))) = some d_is_least := rfl
theorem c_is_least {n : Nat} {S : Store} {Q : W → Store → Prop} {E : Xc → Store → Prop} {w0 : W} (h : wp (p_is_least (asgTup [4, 5, 6]) (asgTup [4, 5, 6]) (calls G ds n) [some w0, none, none, none, none, none, none]) S (finQ S.length Q E) noE) : wp (calls G ds (n + 1) "is_least" [w0]) S Q E :=
  wp_call (p := (p_is_least (asgTup [4, 5, 6]) (asgTup [4, 5, 6]))) (g := [some w0, none, none, none, none, none, none]) f_is_least rfl e_is_least rfl h
theorem f_check_acceptor : ds.find? (fun d => decide (d.name = ("check_acceptor" : Str))) = some d_check_acceptor := rfl
theorem c_check_acceptor {n : Nat} {S : Store} {Q : W → Store → Prop} {E : Xc → Store → Prop} {w0 : W} (h : wp (p_check_acceptor (calls G ds n) [some w0]) S (finQ S.length Q E) noE) : wp (calls G ds (n + 1) "check_acceptor" [w0]) S Q E :=
  wp_call (p := (p_check_acceptor)) (g := [some w0]) f_check_acceptor rfl e_check_acceptor rfl h
theorem f_read_answer : ds.find? (fun d => decide (d.name = ("read_answer" : Str))) = some d_read_answer := rfl
theorem c_read_answer {n : Nat} {S : Store} {Q : W → Store → Prop} {E : Xc → Store → Prop} {w0 w1 : W} (h : wp (p_read_answer (calls G ds n) [some w0, some w1, none, none]) S (finQ S.length Q E) noE) : wp (calls G ds (n + 1) "read_answer" [w0, w1]) S Q E :=
  wp_call (p := (p_read_answer)) (g := [some w0, some w1, none, none]) f_read_answer rfl e_read_answer rfl h
theorem f_acceptor_read : ds.find? (fun d => decide (d.name = ("acceptor_read" : Str))) = some d_acceptor_read := rfl
theorem c_acceptor_read {n : Nat} {S : Store} {Q : W → Store → Prop} {E : Xc → Store → Prop} {w0 w1 : W} (h : wp (p_acceptor_read (calls G ds n) [some w0, some w1]) S (finQ S.length Q E) noE) : wp (calls G ds (n + 1) "acceptor_read" [w0, w1]) S Q E :=
  wp_call (p := (p_acceptor_read)) (g := [some w0, some w1]) f_acceptor_read rfl e_acceptor_read rfl h
theorem f_law_drops : ds.find? (fun d => decide (d.name = ("_law_drops" : Str))) = some d__law_drops := rfl
theorem c_law_drops {n : Nat} {S : Store} {Q : W → Store → Prop} {E : Xc → Store → Prop} {w0 w1 : W} (h : wp (p_law_drops (calls G ds n) [some w0, some w1, none, none, none, none]) S (finQ S.length Q E) noE) : wp (calls G ds (n + 1) "_law_drops" [w0, w1]) S Q E :=
  wp_call (p := (p_law_drops)) (g := [some w0, some w1, none, none, none, none]) f_law_drops rfl e_law_drops rfl h
theorem f_law_take : ds.find? (fun d => decide (d.name = ("_law_take" : Str))) = some d__law_take := rfl
theorem c_law_take {n : Nat} {S : Store} {Q : W → Store → Prop} {E : Xc → Store → Prop} {w0 w1 : W} (h : wp (p_law_take (calls G ds n) [some w0, some w1, none]) S (finQ S.length Q E) noE) : wp (calls G ds (n + 1) "_law_take" [w0, w1]) S Q E :=
  wp_call (p := (p_law_take)) (g := [some w0, some w1, none]) f_law_take rfl e_law_take rfl h
theorem f_law_same : ds.find? (fun d => decide (d.name = ("_law_same" : Str))) = some d__law_same := rfl
theorem c_law_same {n : Nat} {S : Store} {Q : W → Store → Prop} {E : Xc → Store → Prop} {w0 w1 : W} (h : wp (p_law_same (calls G ds n) [some w0, some w1]) S (finQ S.length Q E) noE) : wp (calls G ds (n + 1) "_law_same" [w0, w1]) S Q E :=
  wp_call (p := (p_law_same)) (g := [some w0, some w1]) f_law_same rfl e_law_same rfl h
theorem f_law_says : ds.find? (fun d => decide (d.name = ("_law_says" : Str))) = some d__law_says := rfl
theorem c_law_says {n : Nat} {S : Store} {Q : W → Store → Prop} {E : Xc → Store → Prop} {w0 w1 : W} (h : wp (p_law_says (calls G ds n) [some w0, some w1]) S (finQ S.length Q E) noE) : wp (calls G ds (n + 1) "_law_says" [w0, w1]) S Q E :=
  wp_call (p := (p_law_says)) (g := [some w0, some w1]) f_law_says rfl e_law_says rfl h
theorem f_law_formed : ds.find? (fun d => decide (d.name = ("_law_formed" : Str))) = some d__law_formed := rfl
theorem c_law_formed {n : Nat} {S : Store} {Q : W → Store → Prop} {E : Xc → Store → Prop} {w0 : W} (h : wp (p_law_formed (calls G ds n) [some w0, none, none]) S (finQ S.length Q E) noE) : wp (calls G ds (n + 1) "_law_formed" [w0]) S Q E :=
  wp_call (p := (p_law_formed)) (g := [some w0, none, none]) f_law_formed rfl e_law_formed rfl h
theorem f_law_classes : ds.find? (fun d => decide (d.name = ("_law_classes" : Str))) = some d__law_classes := rfl
theorem c_law_classes {n : Nat} {S : Store} {Q : W → Store → Prop} {E : Xc → Store → Prop} {w0 w1 : W} (h : wp (p_law_classes (asgTup [5, 6]) (asgTup [5, 8]) (calls G ds n) [some w0, some w1, none, none, none, none, none, none, none]) S (finQ S.length Q E) noE) : wp (calls G ds (n + 1) "_law_classes" [w0, w1]) S Q E :=
  wp_call (p := (p_law_classes (asgTup [5, 6]) (asgTup [5, 8]))) (g := [some w0, some w1, none, none, none, none, none, none, none]) f_law_classes rfl e_law_classes rfl h
theorem f_law_least : ds.find? (fun d => decide (d.name = ("_law_least" : Str))) = some d__law_least := rfl
theorem c_law_least {n : Nat} {S : Store} {Q : W → Store → Prop} {E : Xc → Store → Prop} {w0 w1 : W} (h : wp (p_law_least (calls G ds n) [some w0, some w1, none, none, none, none, none, none, none, none, none, none, none, none, none]) S (finQ S.length Q E) noE) : wp (calls G ds (n + 1) "_law_least" [w0, w1]) S Q E :=
  wp_call (p := (p_law_least)) (g := [some w0, some w1, none, none, none, none, none, none, none, none, none, none, none, none, none]) f_law_least rfl e_law_least rfl h
theorem f_law_rows : ds.find? (fun d => decide (d.name = ("_law_rows" : Str))) = some d__law_rows := rfl
theorem c_law_rows {n : Nat} {S : Store} {Q : W → Store → Prop} {E : Xc → Store → Prop} {w0 w1 : W} (h : wp (p_law_rows (calls G ds n) [some w0, some w1, none, none, none, none, none, none, none, none]) S (finQ S.length Q E) noE) : wp (calls G ds (n + 1) "_law_rows" [w0, w1]) S Q E :=
  wp_call (p := (p_law_rows)) (g := [some w0, some w1, none, none, none, none, none, none, none, none]) f_law_rows rfl e_law_rows rfl h
theorem f_law_judge : ds.find? (fun d => decide (d.name = ("_law_judge" : Str))) = some d__law_judge := rfl
theorem c_law_judge {n : Nat} {S : Store} {Q : W → Store → Prop} {E : Xc → Store → Prop} {w0 : W} (h : wp (p_law_judge (calls G ds n) [some w0]) S (finQ S.length Q E) noE) : wp (calls G ds (n + 1) "_law_judge" [w0]) S Q E :=
  wp_call (p := (p_law_judge)) (g := [some w0]) f_law_judge rfl e_law_judge rfl h
theorem f_law_exchanged : ds.find? (fun d => decide (d.name = ("_law_exchanged" : Str))) = some d__law_exchanged := rfl
theorem c_law_exchanged {n : Nat} {S : Store} {Q : W → Store → Prop} {E : Xc → Store → Prop} {w0 w1 w2 : W} (h : wp (p_law_exchanged (calls G ds n) [some w0, some w1, some w2, none, none]) S (finQ S.length Q E) noE) : wp (calls G ds (n + 1) "_law_exchanged" [w0, w1, w2]) S Q E :=
  wp_call (p := (p_law_exchanged)) (g := [some w0, some w1, some w2, none, none]) f_law_exchanged rfl e_law_exchanged rfl h
theorem f_law_bent_rows : ds.find? (fun d => decide (d.name = ("_law_bent_rows" : Str))) = some d__law_bent_rows := rfl
theorem c_law_bent_rows {n : Nat} {S : Store} {Q : W → Store → Prop} {E : Xc → Store → Prop} {w0 w1 : W} (h : wp (p_law_bent_rows (asgTup [4, 5, 6]) (asgTup [10, 11]) (asgTup [4, 5, 6]) (calls G ds n) [some w0, some w1, none, none, none, none, none, none, none, none, none, none]) S (finQ S.length Q E) noE) : wp (calls G ds (n + 1) "_law_bent_rows" [w0, w1]) S Q E :=
  wp_call (p := (p_law_bent_rows (asgTup [4, 5, 6]) (asgTup [10, 11]) (asgTup [4, 5, 6]))) (g := [some w0, some w1, none, none, none, none, none, none, none, none, none, none]) f_law_bent_rows rfl e_law_bent_rows rfl h
theorem f_law_odd : ds.find? (fun d => decide (d.name = ("_law_odd" : Str))) = some d__law_odd := rfl
theorem c_law_odd {n : Nat} {S : Store} {Q : W → Store → Prop} {E : Xc → Store → Prop} {w0 w1 : W} (h : wp (p_law_odd (asgTup [3, 4, 5]) (calls G ds n) [some w0, some w1, none, none, none, none, none, none, none]) S (finQ S.length Q E) noE) : wp (calls G ds (n + 1) "_law_odd" [w0, w1]) S Q E :=
  wp_call (p := (p_law_odd (asgTup [3, 4, 5]))) (g := [some w0, some w1, none, none, none, none, none, none, none]) f_law_odd rfl e_law_odd rfl h
theorem f_law_refused : ds.find? (fun d => decide (d.name = ("_law_refused" : Str))) = some d__law_refused := rfl
theorem c_law_refused {n : Nat} {S : Store} {Q : W → Store → Prop} {E : Xc → Store → Prop} {w0 : W} (h : wp (p_law_refused (calls G ds n) [some w0, none]) S (finQ S.length Q E) noE) : wp (calls G ds (n + 1) "_law_refused" [w0]) S Q E :=
  wp_call (p := (p_law_refused)) (g := [some w0, none]) f_law_refused rfl e_law_refused rfl h
theorem f_law_right : ds.find? (fun d => decide (d.name = ("_law_right" : Str))) = some d__law_right := rfl
theorem c_law_right {n : Nat} {S : Store} {Q : W → Store → Prop} {E : Xc → Store → Prop} {w0 : W} (h : wp (p_law_right (calls G ds n) [some w0, none, none]) S (finQ S.length Q E) noE) : wp (calls G ds (n + 1) "_law_right" [w0]) S Q E :=
  wp_call (p := (p_law_right)) (g := [some w0, none, none]) f_law_right rfl e_law_right rfl h
theorem f_law : ds.find? (fun d => decide (d.name = ("law" : Str))) = some d_law := rfl
theorem c_law {n : Nat} {S : Store} {Q : W → Store → Prop} {E : Xc → Store → Prop} {w0 : W} (h : wp (p_law (calls G ds n) [some w0, none, none, none, none, none, none, none]) S (finQ S.length Q E) noE) : wp (calls G ds (n + 1) "law" [w0]) S Q E :=
  wp_call (p := (p_law)) (g := [some w0, none, none, none, none, none, none, none]) f_law rfl e_law rfl h
end K29
end

section
set_option Elab.async false
set_option linter.all false
set_option maxRecDepth 100000
set_option maxHeartbeats 400000
set_option autoImplicit false
/-! KL2: the law's classes. -/
open PySem L2 Mp Mp.Q KM
namespace K29
def kdS : Kd → Str
  | .op => "open"
  | .wh => "whole"
  | .de => "dead"
def kdD (k : Kd) : PyData := .str (kdS k)
theorem kdS_inj {a b : Kd} (h : kdS a = kdS b) : a = b := by
  cases a <;> cases b <;> first | rfl | exact absurd h (by decide)
/-- the classes so far -/
structure ClsI (m : Nat) (z : Nat → Bool → Nat) (k' : Nat → Kd) (t : Nat) (P : Nat → Nat) : Prop where
  le : ∀ i, i < m → P i ≤ i
  idem : ∀ i, i < m → P (P i) = P i
  mark : ∀ i j, i < m → j < m → P i = P j → k' i = k' j
  max : ∀ R : Nat → Nat → Prop, (∀ i j, R i j → i < m ∧ j < m ∧ k' i = k' j ∧ ∀ b, R (z i b) (z j b)) → ∀ i j, R i j → P i = P j
  many : t ≤ cnt P m
theorem clsI_first {m : Nat} {z : Nat → Bool → Nat} {k' : Nat → Kd} (hm : 0 < m) : ClsI m z k' 1 (fst fun i => (Sum.inr (kdS (k' i)) : Key)) where
  le := fun i _ => (fst_spec _ i).1
  idem := fun i _ => fst_idem _ i
  mark := fun i j _ _ e => by
    have := fst_eq.mp e
    injection this with this
    exact kdS_inj this
  max := fun R hR i j r => by
    have := (hR i j r).2.2.1
    refine fst_eq.mpr ?_
    rw [this]
  many := cnt_pos _ hm
theorem clsI_next {m : Nat} {z : Nat → Bool → Nat} {k' : Nat → Kd} {t : Nat} {P : Nat → Nat} (hz : ∀ i b, i < m → z i b < m) (I : ClsI m z k' t P) (hne : ¬ ∀ i, i < m → fst (fun i => [Sum.inl (P i : Int), .inl (P (z i false) : Int), .inl (P (z i true) : Int)] : Nat → List Key) i = P i) :
    ClsI m z k' (t + 1) (fst (fun i => [Sum.inl (P i : Int), .inl (P (z i false) : Int), .inl (P (z i true) : Int)] : Nat → List Key)) := by
  have kk : ∀ i j, fst (fun i => [Sum.inl (P i : Int), .inl (P (z i false) : Int), .inl (P (z i true) : Int)] : Nat → List Key) i = fst (fun i => [Sum.inl (P i : Int), .inl (P (z i false) : Int), .inl (P (z i true) : Int)] : Nat → List Key) j ↔ P i = P j ∧ P (z i false) = P (z j false) ∧ P (z i true) = P (z j true) := by
    intro i j
    rw [fst_eq]
    simp
    omega
  refine ⟨fun i _ => (fst_spec _ i).1, fun i _ => fst_idem _ i, fun i j hi hj e => I.mark i j hi hj ((kk i j).mp e).1, fun R hR i j r => ?_, ?_⟩
  · have h := hR i j r
    exact (kk i j).mpr ⟨I.max R hR i j r, I.max R hR _ _ (h.2.2.2 false), I.max R hR _ _ (h.2.2.2 true)⟩
  · have h1 := cnt_finer (key := P) (key' := fst (fun i => [Sum.inl (P i : Int), .inl (P (z i false) : Int), .inl (P (z i true) : Int)] : Nat → List Key)) (m := m) fun i j _ _ e => ((kk i j).mp e).1
    have h2 := I.many
    rcases Nat.lt_or_ge (cnt P m) (cnt (fst (fun i => [Sum.inl (P i : Int), .inl (P (z i false) : Int), .inl (P (z i true) : Int)] : Nat → List Key)) m) with q | q
    · omega
    · refine absurd (fun i hi => ?_) hne
      have hs : ∀ i j, i < m → j < m → P i = P j → fst (fun i => [Sum.inl (P i : Int), .inl (P (z i false) : Int), .inl (P (z i true) : Int)] : Nat → List Key) i = fst (fun i => [Sum.inl (P i : Int), .inl (P (z i false) : Int), .inl (P (z i true) : Int)] : Nat → List Key) j :=
        fun i j hi hj e => same_of_cnt (key := P) (fun i j _ _ e => ((kk i j).mp e).1) q hi hj e
      have f := fst_spec (fun i => [Sum.inl (P i : Int), .inl (P (z i false) : Int), .inl (P (z i true) : Int)] : Nat → List Key) i
      have p1 := I.le i hi
      have p2 := I.idem i hi
      -- the least of the class of i by P is P i
      have a1 : fst (fun i => [Sum.inl (P i : Int), .inl (P (z i false) : Int), .inl (P (z i true) : Int)] : Nat → List Key) i ≤ P i := by
        have e := hs (P i) i (by omega) hi p2
        rw [← e]
        exact (fst_spec _ _).1
      have a2 : P i ≤ fst (fun i => [Sum.inl (P i : Int), .inl (P (z i false) : Int), .inl (P (z i true) : Int)] : Nat → List Key) i := by
        have e := ((kk _ i).mp (fst_idem _ i)).1
        rw [← e]
        exact I.le _ (by omega)
      omega
theorem clsI_end {m : Nat} {z : Nat → Bool → Nat} {k' : Nat → Kd} {t : Nat} {P : Nat → Nat} (hz : ∀ i b, i < m → z i b < m) (I : ClsI m z k' t P) (he : ∀ i, i < m → fst (fun i => [Sum.inl (P i : Int), .inl (P (z i false) : Int), .inl (P (z i true) : Int)] : Nat → List Key) i = P i) : Coarse m k' z P ∧ Rep m P := by
  refine ⟨⟨I.mark, fun i j b hi hj e => ?_, I.max⟩, ⟨I.le, I.idem⟩⟩
  have h1 : fst (fun i => [Sum.inl (P i : Int), .inl (P (z i false) : Int), .inl (P (z i true) : Int)] : Nat → List Key) i = fst (fun i => [Sum.inl (P i : Int), .inl (P (z i false) : Int), .inl (P (z i true) : Int)] : Nat → List Key) j := by rw [he i hi, he j hj, e]
  have h2 := fst_eq.mp h1
  simp at h2
  cases b
  · have := h2.2.1
    omega
  · have := h2.2.2
    omega
end K29
end

section
set_option Elab.async false
set_option linter.all false
set_option maxRecDepth 100000
set_option maxHeartbeats 1000000
set_option autoImplicit false
/-! KL3: the law's classes, the program's part. -/
open PySem L2 Mp Mp.Q KM
local macro_rules
  | `(tactic| fail) => `(tactic| first
    | with_reducible refine wp_nxS ?_
    | with_reducible refine wp_rtS ?_
    | with_reducible refine wp_bkS ?_
    | with_reducible refine wp_ctS ?_
    | with_reducible refine wp_xcS ?_
    | with_reducible refine wp_nxF ?_
    | with_reducible refine wp_ctF ?_
    | with_reducible refine wp_bkF ?_
    | with_reducible refine wp_rtF ?_
    | with_reducible refine wp_xcF ?_
    | with_reducible refine wp_nxD ?_
    | with_reducible refine wp_rtD ?_
    | with_reducible refine wp_rtC ?_
    | with_reducible refine wp_rtO ?_
    | with_reducible refine wp_xcD ?_
    | with_reducible refine wp_ret ?_
    | with_reducible refine wp_seq ?_
    | with_reducible refine wp_bndE ?_
    | with_reducible refine wp_bnd ?_
    | ((with_reducible apply wp_getS); · rfl)
    | with_reducible refine wp_evs_cons ?_
    | with_reducible refine wp_evs_nil ?_
    | with_reducible refine wp_tup ?_
    | with_reducible refine wp_and1 ?_
    | with_reducible refine wp_and ?_
    | with_reducible refine wp_or1 ?_
    | with_reducible refine wp_or ?_
    | with_reducible refine wp_boolV1 ?_
    | with_reducible refine wp_boolA ?_
    | with_reducible refine wp_boolO ?_
    | with_reducible refine wp_opt ?_
    | with_reducible refine optQ_int ?_
    | with_reducible refine wp_listD ?_
    | with_reducible refine wp_listL ?_
    | refine ⟨[], rfl, Nat.le_of_ble_eq_true rfl, ?_⟩
    | refine ⟨[_], rfl, Nat.le_of_ble_eq_true rfl, ?_⟩
    | refine ⟨[_, _], rfl, Nat.le_of_ble_eq_true rfl, ?_⟩
    | refine ⟨[_, _, _], rfl, Nat.le_of_ble_eq_true rfl, ?_⟩
    | refine ⟨[_, _, _, _], rfl, Nat.le_of_ble_eq_true rfl, ?_⟩
    | refine ⟨[_, _, _, _, _], rfl, Nat.le_of_ble_eq_true rfl, ?_⟩
    | refine ⟨[_, _, _, _, _, _], rfl, Nat.le_of_ble_eq_true rfl, ?_⟩
    | refine ⟨[_, _, _, _, _, _, _], rfl, Nat.le_of_ble_eq_true rfl, ?_⟩
    | ((with_reducible apply wp_blt); · with_reducible exact len_lst)
    | ((with_reducible apply wp_walkV); · with_reducible exact walk_lst)
    | ((with_reducible apply wp_enum); · with_reducible exact enum_lst)
    | ((with_reducible apply wp_cmp); · with_reducible exact eq_int)
    | ((with_reducible apply wp_cmp); · with_reducible exact ne_int)
    | ((with_reducible apply wp_bin); · with_reducible exact bin_add)
    | ((with_reducible apply wp_bin); · with_reducible exact bin_sub)
    | ((with_reducible apply wp_bin); · with_reducible exact bin_mod (by decide))
    | ((with_reducible apply wp_bin); · with_reducible exact bin_fdiv (by decide) (by decide))
    | ((with_reducible apply wp_bin); · with_reducible exact bin_pow (by decide))
    | ((with_reducible apply wp_cmp); · rfl)
    | ((with_reducible apply wp_truth); · rfl)
    | ((with_reducible apply wp_asBool); · rfl)
    | ((with_reducible apply wp_isi); · rfl)
    | ((with_reducible apply wp_neg); · rfl)
    | ((with_reducible apply wp_asgTup); · rfl)
    | ((with_reducible apply wp_item); · with_reducible exact item_lst (by omega))
    | ((with_reducible apply wp_item); · rfl)
    | ((with_reducible refine wp_condT ?_ ?_); · rfl)
    | ((with_reducible refine wp_condF ?_ ?_); · rfl))
namespace K29
section
variable {κ : Type} [DecidableEq κ] {mk : List (κ × W) → Ob} {φ : Nat → PyData} {key : Nat → κ} {S0 : Store} {m : Nat} {E : Xc → Store → Prop}
/-- the dict of the first places is laid -/
theorem cls_loop (D : Dk mk φ key) (hm : 0 < m) (hM : m ≤ 1000) {a0 a1 a2 a3 x5 x6 x7 x8 : Option W} {Q : Fl → Store → Prop}
    (q : ∀ x5 x6, wp (ret (.nx [a0, a1, a2, a3, some (.obj S0.length), x5, x6, x7, x8])) (S0 ++ [some (mk (kv key (fun j => nD j) m))]) Q E) :
    wp (forW (fun w g => asgTup [5, 6] w g) (fun g => seqM (bndE g (bnd (getS g 4) fun x => bnd (recv "setdefault" x) fun _ => bnd (evsM [getS g 6, getS g 5]) fun ws => method x "setdefault" ws) fun _ => ret (.nx g)) fun g => ret (.nx g)) (.list ((List.range m).map fun i => .dat (.tuple [nD i, φ i]))) walkFuel 0 [a0, a1, a2, a3, some (.obj S0.length), x5, x6, x7, x8]) (S0 ++ [some (.dk [])]) Q E := by
  refine wp_for (fun i g S' => ∃ x5 x6 o, g = [a0, a1, a2, a3, some (.obj S0.length), x5, x6, x7, x8] ∧ S' = S0 ++ [some o] ∧ DkIs mk o (kv key (fun j => nD j) i)) ?_ ?_ _ 0 _ _ (by simp [walkFuel]; omega) (by omega) ⟨x5, x6, _, rfl, rfl, .inr ⟨rfl, rfl⟩⟩
  · rintro i w g S' hw ⟨x5, x6, o, rfl, rfl, ho⟩
    have hi : i < m := by have := (List.getElem?_eq_some_iff.mp hw).1; simpa using this
    rw [List.getElem?_map, List.getElem?_range hi] at hw
    cases hw
    refine wp_asgTup (g' := [a0, a1, a2, a3, some (.obj S0.length), some (.dat (nD i)), some (.dat (φ i)), x7, x8]) rfl ?_
    repeat fail
    refine wp_recv (D.recv get_last ho) ?_
    repeat fail
    obtain ⟨r, hr⟩ := D.sd_step (fun j => nD j) (get_last (S := S0) (o := some o)) ho (by omega)
    refine wp_method hr ?_
    repeat fail
    exact ⟨_, _, _, rfl, by rw [set_last], .inl rfl⟩
  · rintro g S' ⟨x5, x6, o, rfl, rfl, ho⟩
    rw [List.length_map, List.length_range] at ho
    rcases ho with rfl | ⟨rfl, h⟩
    · exact q x5 x6
    · have h1 := kv_len key (fun j => nD j) m
      rw [h] at h1
      have := cnt_pos key hm
      simp at h1
      omega
theorem cls_item (D : Dk mk φ key) (i : Nat) (hi : i < m) {S : Store} {k : Nat} (hS : S[k]? = some (some (mk (kv key (fun j => nD j) m)))) : itemOf (.obj k) (.dat (φ i)) S = .ok (.dat (nD (fst key i))) S := by
  refine D.item hS ?_
  have h := kv_get key (fun j => nD j) i m
  have := (fst_spec key i).1
  rw [if_pos (by omega)] at h
  exact h
end
theorem classes_ok (n m : Nat) (z : Nat → Bool → Nat) (k' : Nat → Kd) (S : Store) (hm : 0 < m) (hM : m ≤ 1000) (hz : ∀ i b, i < m → z i b < m) :
    ∃ P, Coarse m k' z P ∧ Rep m P ∧ calls G ds (n + 1) "_law_classes" [.dat (lst m fun i => .tuple [nD (z i false), nD (z i true)]), .dat (lst m fun i => kdD (k' i))] S = .ok (.dat (lst m fun i => nD (P i))) S := by
  have key : wp (calls G ds (n + 1) "_law_classes" [.dat (lst m fun i => .tuple [nD (z i false), nD (z i true)]), .dat (lst m fun i => kdD (k' i))]) S (fun a S' => (∃ P, Coarse m k' z P ∧ Rep m P ∧ a = .dat (lst m fun i => nD (P i))) ∧ S' = S) noE := by
    refine c_law_classes ?_
    unfold p_law_classes
    repeat fail
    refine wp_range (range_ok (n := m + 1) (by omega)) ?_
    rw [rangeL_eq]
    refine wp_for (fun t g S' => ∃ (marks groups : PyData) (x3 x4 x5 x6 x7 x8 : Option W), g = [some (.dat (lst m fun i => .tuple [nD (z i false), nD (z i true)])), some (.dat marks), some (.dat groups), x3, x4, x5, x6, x7, x8] ∧ (∃ T, S' = S ++ T) ∧
      ((t = 0 ∧ marks = (lst m fun i => kdD (k' i)) ∧ groups = .list []) ∨ (0 < t ∧ ∃ P, ClsI m z k' t P ∧ marks = (lst m fun i => .tuple [nD (P i), nD (P (z i false)), nD (P (z i true))]) ∧ groups = (lst m fun i => nD (P i))))) ?_ ?_ _ 0 _ _ (by simp [walkFuel]; omega) (by omega) ⟨_, _, _, _, _, _, _, _, rfl, ⟨[], by simp⟩, .inl ⟨rfl, rfl, rfl⟩⟩
    · rintro t w g S' hw ⟨marks, groups, x3, x4, x5, x6, x7, x8, rfl, ⟨T, rfl⟩, hI⟩
      have ht : t < m + 1 := by have := (List.getElem?_eq_some_iff.mp hw).1; simpa using this
      rw [List.getElem?_map, List.getElem?_range ht] at hw
      cases hw
      have hD : ∃ (κ : Type) (_ : DecidableEq κ) (mk : List (κ × W) → Ob) (φ : Nat → PyData) (key : Nat → κ), Dk mk φ key ∧ marks = lst m φ ∧ ((lst m fun i => nD (fst key i)) = groups → ∃ P, Coarse m k' z P ∧ Rep m P ∧ groups = lst m fun i => nD (P i)) ∧ ((lst m fun i => nD (fst key i)) ≠ groups → ClsI m z k' (t + 1) (fst key)) ∧ plain 1 groups = true := by
        rcases hI with ⟨rfl, rfl, rfl⟩ | ⟨h0, P, I, rfl, rfl⟩
        · refine ⟨Key, inferInstance, Ob.dk, fun i => .str (kdS (k' i)), fun i => .inr (kdS (k' i)), dk_str, rfl, fun h => ?_, fun _ => clsI_first hm, rfl⟩
          have := congrArg (fun d => match d with
            | .list ds => ds.length
            | _ => 0) h
          simp [lst] at this
          omega
        · refine ⟨List Key, inferInstance, Ob.dt, fun i => .tuple [nD (P i), nD (P (z i false)), nD (P (z i true))], fun i => [.inl (P i), .inl (P (z i false)), .inl (P (z i true))], dk_tup, rfl, fun h => ?_, fun h => ?_, plain_lst fun _ _ => rfl⟩
          · have := clsI_end hz I fun i hi => by
              have := lst_inj h i hi
              injection this with this
              exact Int.ofNat.inj this
            exact ⟨P, this.1, this.2, rfl⟩
          · refine clsI_next hz I fun q => h (lst_ext fun i hi => ?_)
            show nD _ = nD _
            rw [← q i hi]
      obtain ⟨κ, inst, mk, φ, key, D, rfl, h1, h2, hp⟩ := hD
      repeat fail
      refine wp_alloc rfl ?_
      repeat fail
      refine cls_loop D hm hM ?_
      intro x5 x6
      repeat fail
      refine wp_compA (fun i => .dat (nD (fst key i))) (by omega) (fun i hi => ?_) ?_
      · repeat fail
        exact wp_item (cls_item D i hi get_last) ⟨rfl, rfl⟩
      refine wp_newList (new_lst fun i _ => rfl) ?_
      repeat fail
      refine wp_cmp (eq_plain (n := 1) (plain_lst fun _ _ => rfl) hp (by decide)) ?_
      repeat fail
      by_cases he : (lst m fun i => nD (fst key i)) = groups
      · refine wp_condT (decide_eq_true he) ?_
        repeat fail
        obtain ⟨P, c1, c2, c3⟩ := h1 he
        exact ⟨⟨P, c1, c2, by rw [c3]⟩, by rw [List.append_assoc]; exact take_app⟩
      · refine wp_condF (decide_eq_false he) ?_
        repeat fail
        refine wp_compA (fun i => .dat (.tuple [nD (fst key i), nD (fst key (z i false)), nD (fst key (z i true))])) (by omega) (fun i hi => ?_) ?_
        · have z0 := hz i false hi
          have z1 := hz i true hi
          repeat fail
          exact ⟨rfl, rfl⟩
        refine wp_newList (new_lst fun i _ => rfl) ?_
        repeat fail
        exact ⟨_, _, _, _, _, _, _, _, rfl, ⟨T ++ [some (mk (kv key (fun j => nD j) m))], by rw [List.append_assoc]⟩, .inr ⟨by omega, _, h2 he, rfl, rfl⟩⟩
    · rintro g S' ⟨marks, groups, x3, x4, x5, x6, x7, x8, rfl, ⟨T, rfl⟩, hI⟩
      rw [List.length_map, List.length_range] at hI
      rcases hI with h | ⟨_, P, I, _⟩
      · exact absurd h.1 (by omega)
      · have h1 := I.many
        have h2 := cnt_le P m
        omega
  obtain ⟨a, S', h1, ⟨P, h2, h3, rfl⟩, rfl⟩ := ex_of_wp key
  exact ⟨P, h2, h3, h1⟩
end K29
end

section
set_option Elab.async false
set_option linter.all false
set_option maxRecDepth 100000
set_option maxHeartbeats 1000000
set_option autoImplicit false
/-! KL4: the law's least acceptor. -/
open PySem L2 Mp Mp.Q KM
local macro_rules
  | `(tactic| fail) => `(tactic| first
    | with_reducible refine wp_nxS ?_
    | with_reducible refine wp_rtS ?_
    | with_reducible refine wp_bkS ?_
    | with_reducible refine wp_ctS ?_
    | with_reducible refine wp_xcS ?_
    | with_reducible refine wp_nxF ?_
    | with_reducible refine wp_ctF ?_
    | with_reducible refine wp_bkF ?_
    | with_reducible refine wp_rtF ?_
    | with_reducible refine wp_xcF ?_
    | with_reducible refine wp_nxD ?_
    | with_reducible refine wp_rtD ?_
    | with_reducible refine wp_rtC ?_
    | with_reducible refine wp_rtO ?_
    | with_reducible refine wp_xcD ?_
    | with_reducible refine wp_ret ?_
    | with_reducible refine wp_seq ?_
    | with_reducible refine wp_bndE ?_
    | with_reducible refine wp_bnd ?_
    | ((with_reducible apply wp_getS); · rfl)
    | with_reducible refine wp_evs_cons ?_
    | with_reducible refine wp_evs_nil ?_
    | with_reducible refine wp_tup ?_
    | with_reducible refine wp_and1 ?_
    | with_reducible refine wp_and ?_
    | with_reducible refine wp_or1 ?_
    | with_reducible refine wp_or ?_
    | with_reducible refine wp_boolV1 ?_
    | with_reducible refine wp_boolA ?_
    | with_reducible refine wp_boolO ?_
    | with_reducible refine wp_opt ?_
    | with_reducible refine optQ_int ?_
    | with_reducible refine wp_listD ?_
    | with_reducible refine wp_listL ?_
    | refine ⟨[], rfl, Nat.le_of_ble_eq_true rfl, ?_⟩
    | refine ⟨[_], rfl, Nat.le_of_ble_eq_true rfl, ?_⟩
    | refine ⟨[_, _], rfl, Nat.le_of_ble_eq_true rfl, ?_⟩
    | refine ⟨[_, _, _], rfl, Nat.le_of_ble_eq_true rfl, ?_⟩
    | refine ⟨[_, _, _, _], rfl, Nat.le_of_ble_eq_true rfl, ?_⟩
    | refine ⟨[_, _, _, _, _], rfl, Nat.le_of_ble_eq_true rfl, ?_⟩
    | refine ⟨[_, _, _, _, _, _], rfl, Nat.le_of_ble_eq_true rfl, ?_⟩
    | refine ⟨[_, _, _, _, _, _, _], rfl, Nat.le_of_ble_eq_true rfl, ?_⟩
    | ((with_reducible apply wp_blt); · with_reducible exact len_lst)
    | ((with_reducible apply wp_walkV); · with_reducible exact walk_lst)
    | ((with_reducible apply wp_enum); · with_reducible exact enum_lst)
    | ((with_reducible apply wp_cmp); · with_reducible exact eq_int)
    | ((with_reducible apply wp_cmp); · with_reducible exact ne_int)
    | ((with_reducible apply wp_bin); · with_reducible exact bin_add)
    | ((with_reducible apply wp_bin); · with_reducible exact bin_sub)
    | ((with_reducible apply wp_bin); · with_reducible exact bin_mod (by decide))
    | ((with_reducible apply wp_bin); · with_reducible exact bin_fdiv (by decide) (by decide))
    | ((with_reducible apply wp_bin); · with_reducible exact bin_pow (by decide))
    | ((with_reducible apply wp_cmp); · rfl)
    | ((with_reducible apply wp_truth); · rfl)
    | ((with_reducible apply wp_asBool); · rfl)
    | ((with_reducible apply wp_isi); · rfl)
    | ((with_reducible apply wp_neg); · rfl)
    | ((with_reducible apply wp_asgTup); · rfl)
    | ((with_reducible apply wp_item); · with_reducible exact item_lst (by omega))
    | ((with_reducible apply wp_item); · rfl)
    | ((with_reducible refine wp_condT ?_ ?_); · rfl)
    | ((with_reducible refine wp_condF ?_ ?_); · rfl))
namespace K29
def two (l : List Nat) (a b : Nat) : Nat → List Nat
  | 0 => l
  | 1 => push l a
  | _ => push (push l a) b
def rowD (r : Row) : PyData := .tuple [nD r.1, nD r.2.1, kdD r.2.2]
def rowsD (rs : List Row) : PyData := .list (rs.map rowD)
theorem rowsD_lst (rs : List Row) : rowsD rs = lst rs.length fun i => .tuple [nD (go rs i false), nD (go rs i true), kdD (kd rs i)] := by
  unfold rowsD lst
  congr 1
  refine List.ext_getElem? fun i => ?_
  by_cases h : i < rs.length
  · rw [List.getElem?_map, rowAt_eq h, lst_get h]
    rfl
  · rw [List.getElem?_eq_none (by simp; omega), List.getElem?_eq_none (by simp; omega)]
section
variable {S : Store} {k : Kd}
theorem kdS_ok : ∀ k : Kd, PyData.strOk (kdS k) = true
  | .op => by decide +kernel
  | .wh => by decide +kernel
  | .de => by decide +kernel
theorem eq_kd {b : Kd} : cmpOp .Eq (.dat (kdD k)) (.dat (kdD b)) S = .ok (decide (k = b)) S := by
  have := eq_str (S := S) (kdS_ok k) (kdS_ok b)
  rw [show cmpOp .Eq (.dat (kdD k)) (.dat (kdD b)) S = cmpOp .Eq (.dat (.str (kdS k))) (.dat (.str (kdS b))) S from rfl, this]
  by_cases h : k = b
  · subst h; simp
  · rw [decide_eq_false h, decide_eq_false fun q => h (kdS_inj q)]
theorem eq_wh : cmpOp .Eq (.dat (kdD k)) (.dat (.str "whole")) S = .ok (decide (k = .wh)) S := eq_kd (b := .wh)
theorem eq_op : cmpOp .Eq (.dat (kdD k)) (.dat (.str "open")) S = .ok (decide (k = .op)) S := eq_kd (b := .op)
theorem eq_de : cmpOp .Eq (.dat (kdD k)) (.dat (.str "dead")) S = .ok (decide (k = .de)) S := eq_kd (b := .de)
end
end K29
local macro_rules
  | `(tactic| fail) => `(tactic| first
    | ((with_reducible apply wp_cmp); · with_reducible exact K29.eq_wh)
    | ((with_reducible apply wp_cmp); · with_reducible exact K29.eq_op)
    | ((with_reducible apply wp_cmp); · with_reducible exact K29.eq_de))
namespace K29
theorem least_ok (n : Nat) (rs : List Row) (s : Nat) (S : Store) (F : Formed rs) (hs : s < rs.length) (hM : rs.length ≤ 900) :
    ∃ k' z' P ord w, Making rs s k' z' P ord w ∧ calls G ds (n + 2) "_law_least" [.dat (rowsD rs), .dat (nD s)] S = .ok (.dat (rowsD w)) S := by
  have hlt0 := fun i => F.lt i false
  have hlt1 := fun i => F.lt i true
  have key : wp (calls G ds (n + 2) "_law_least" [.dat (rowsD rs), .dat (nD s)]) S (fun a S' => (∃ k' z' P ord w, Making rs s k' z' P ord w ∧ a = .dat (rowsD w)) ∧ S' = S) noE := by
    refine c_law_least ?_
    unfold p_law_least
    rw [rowsD_lst]
    generalize hN : rs.length = N at *
    repeat fail
    -- what lives at first
    refine wp_compA (fun i => .dat (.bool (decide (kd rs i = .wh)))) (by omega) (fun i hi => ?_) ?_
    · repeat fail
      exact ⟨rfl, rfl⟩
    refine wp_newList (new_lst fun i _ => rfl) ?_
    repeat fail
    refine wp_range (range_ok (n := N) (by omega)) ?_
    rw [rangeL_eq]
    refine wp_for (fun t g S' => ∃ (al : Nat → Bool) (x3 x10 x12 : Option W), g = [some (.dat (lst N fun i => .tuple [nD (go rs i false), nD (go rs i true), kdD (kd rs i)])), some (.dat (nD s)), some (.dat (lst N fun i => .bool (al i))), x3, none, none, none, none, none, none, x10, none, x12, none, none] ∧ S' = S ∧ AlI rs t al) ?_ ?_ _ 0 _ _ (by simp [walkFuel]; omega) (by omega) ⟨_, _, _, _, rfl, rfl, alI_first rs⟩
    · rintro t w g S' hw ⟨al, x3, x10, x12, rfl, rfl, I⟩
      have ht : t < N := by have := (List.getElem?_eq_some_iff.mp hw).1; simpa using this
      rw [List.getElem?_map, List.getElem?_range ht] at hw
      cases hw
      repeat fail
      refine wp_compA (fun i => .dat (.bool (more rs al i))) (by omega) (fun i hi => ?_) ?_
      · have z0 := hlt0 i (by omega)
        have z1 := hlt1 i (by omega)
        repeat fail
        refine wp_cond (fun h => ?_) fun h => ?_
        · repeat fail
          exact ⟨by unfold more; rw [h]; rfl, rfl⟩
        · repeat fail
          refine wp_cond (fun h2 => ?_) fun h2 => ?_
          · repeat fail
            refine wp_cond (fun h3 => ?_) fun h3 => ?_
            · repeat fail
              exact ⟨by unfold more; rw [h, h2, h3]; rfl, rfl⟩
            · repeat fail
              exact ⟨by unfold more; rw [h, h2, h3]; rfl, rfl⟩
          · repeat fail
            exact ⟨by unfold more; rw [h, h2]; rfl, rfl⟩
      refine wp_newList (new_lst fun i _ => rfl) ?_
      repeat fail
      refine wp_cmp eq_bools ?_
      repeat fail
      by_cases he : ∀ i, i < N → more rs al i = al i
      · refine wp_condT (decide_eq_true he) ?_
        repeat fail
        have hal := fun i hi => alI_end F I (by rw [hN]; exact he) i (show i < rs.length by rw [hN]; exact hi)
        generalize hk' : (fun i => if i < N then (if al i = true then kd rs i else Kd.de) else Kd.de) = k'
        generalize hz' : (fun (i : Nat) (b : Bool) => if i < N ∧ k' i = .op then go rs i b else N) = z'
        have kend : ∀ i, N ≤ i → k' i = .de := fun i hi => by rw [← hk']; exact if_neg (by omega)
        have klt : ∀ i, i < N → k' i = if al i = true then kd rs i else .de := fun i hi => by rw [← hk']; exact if_pos hi
        have zlt : ∀ i b, i < N + 1 → z' i b < N + 1 := fun i b hi => by
          rw [← hz']
          show (if i < N ∧ k' i = .op then go rs i b else N) < N + 1
          split
          · rename_i h
            cases b
            · have := hlt0 i h.1; omega
            · have := hlt1 i h.1; omega
          · omega
        have zop : ∀ i b, i < N → k' i = .op → z' i b = go rs i b := fun i b hi h => by rw [← hz']; exact if_pos ⟨hi, h⟩
        have zno : ∀ i b, k' i ≠ .op → z' i b = N := fun i b h => by rw [← hz']; exact if_neg fun q => h q.2
        obtain ⟨P, cP, rP, hP⟩ := classes_ok n (N + 1) z' k' S' (by omega) (by omega) zlt
        refine wp_range (range_okN (n := N) (by omega)) ?_
        repeat fail
        refine wp_compA (fun i => .dat (kdD (if al i = true then kd rs i else .de))) (by omega) (fun i hi => ?_) ?_
        · repeat fail
          refine wp_cond (fun h => ?_) fun h => ?_
          · repeat fail
            exact ⟨by rw [if_pos h], rfl⟩
          · repeat fail
            exact ⟨by rw [if_neg (by rw [h]; decide)]; rfl, rfl⟩
        refine wp_newList (new_lst fun i _ => rfl) ?_
        repeat fail
        have ek : binOp false .Add (.dat (lst N fun i => kdD (if al i = true then kd rs i else .de))) (.dat (.list [.str "dead"])) S' = .ok (.dat (lst (N + 1) fun i => kdD (k' i))) S' := by
          refine (add_one (by omega)).trans (congrArg (fun d => Res.ok (W.dat d) S') (lst_ext fun i hi => ?_))
          by_cases h : i < N
          · rw [if_pos h, klt i h]
          · rw [if_neg h, kend i (by omega)]
            rfl
        refine wp_bin ek ?_
        repeat fail
        refine wp_range (range_okN (n := N) (by omega)) ?_
        repeat fail
        refine wp_compA (fun i => .dat (.tuple [nD (z' i false), nD (z' i true)])) (by omega) (fun i hi => ?_) ?_
        · repeat fail
          refine wp_cond (fun h => ?_) fun h => ?_
          · repeat fail
            rw [zop i false hi (of_decide_eq_true h), zop i true hi (of_decide_eq_true h)]
            exact ⟨rfl, rfl⟩
          · repeat fail
            rw [zno i false (of_decide_eq_false h), zno i true (of_decide_eq_false h)]
            exact ⟨rfl, rfl⟩
        refine wp_newList (new_lst fun i _ => rfl) ?_
        repeat fail
        have es : binOp false .Add (.dat (lst N fun i => .tuple [nD (z' i false), nD (z' i true)])) (.dat (.list [.tuple [nD N, nD N]])) S' = .ok (.dat (lst (N + 1) fun i => .tuple [nD (z' i false), nD (z' i true)])) S' := by
          refine (add_one (by omega)).trans (congrArg (fun d => Res.ok (W.dat d) S') (lst_ext fun i hi => ?_))
          by_cases h : i < N
          · rw [if_pos h]
          · rw [if_neg h, zno i false (by rw [kend i (by omega)]; decide), zno i true (by rw [kend i (by omega)]; decide)]
        refine wp_bin es ?_
        repeat fail
        refine wp_of hP ?_
        repeat fail
        refine ⟨Nat.le_of_ble_eq_true rfl, rfl, ?_⟩
        repeat fail
        refine wp_range (range_okN (n := N + 1) (by omega)) ?_
        repeat fail
        have blt_ : ∀ t x, x ∈ bfs (fun i b => P (z' i b)) (P s) t → x < N + 1 := bfs_all (P := fun x => x < N + 1) (by have := rP.le s (by omega); omega) fun i b hi => by
          have h1 := zlt i b hi
          have := rP.le _ h1
          omega
        refine wp_for (fun t g S2 => ∃ (x3 x10 x11 x12 : Option W), g = [some (.dat (lst N fun i => .tuple [nD (go rs i false), nD (go rs i true), kdD (kd rs i)])), some (.dat (nD s)), some (.dat (lst N fun i => .bool (al i))), x3, some (.dat (nD N)), some (.dat (lst (N + 1) fun i => kdD (k' i))), some (.dat (lst (N + 1) fun i => .tuple [nD (z' i false), nD (z' i true)])), some (.dat (lst (N + 1) fun i => nD (P i))), some (.obj S'.length), none, x10, x11, x12, none, none] ∧ S2 = S' ++ [some (.lst (nW (bfs (fun i b => P (z' i b)) (P s) t)))]) ?_ ?_ _ 0 _ _ (by simp [walkFuel]; omega) (by omega) ⟨_, _, _, _, rfl, rfl⟩
        · rintro t w g S2 hw ⟨x3, x10, x11, x12, rfl, rfl⟩
          have ht : t < N + 1 := by have := (List.getElem?_eq_some_iff.mp hw).1; simpa using this
          rw [List.getElem?_map, List.getElem?_range ht] at hw
          cases hw
          have hb : bfs (fun i b => P (z' i b)) (P s) (t + 1) = stepB (fun i b => P (z' i b)) (bfs (fun i b => P (z' i b)) (P s) t) t := rfl
          have hll := nodup_len (N + 1) _ (bfs_nodup (fun i b => P (z' i b)) (P s) t) (blt_ t)
          have hlx := blt_ t
          rw [hb]
          generalize bfs (fun i b => P (z' i b)) (P s) t = l at hll hlx
          repeat fail
          refine wp_blt (len_nobj get_last) ?_
          repeat fail
          refine wp_cond (fun h => ?_) fun h => ?_
          · have htl : t < l.length := by have := of_decide_eq_true h; omega
            have hx : l[t]? = some l[t] := List.getElem?_eq_getElem htl
            generalize l[t] = x at hx
            have hxN : x < N + 1 := hlx x (List.mem_of_getElem? hx)
            have hst : stepB (fun i b => P (z' i b)) l t = push (push l (P (z' x false))) (P (z' x true)) := by unfold stepB; rw [hx]
            rw [hst]
            repeat fail
            refine wp_item (item_nobj get_last hx) ?_
            repeat fail
            refine wp_walkV walk_tup ?_
            refine wp_for (fun i g S2 => ∃ (x11 : Option W), g = [some (.dat (lst N fun i => .tuple [nD (go rs i false), nD (go rs i true), kdD (kd rs i)])), some (.dat (nD s)), some (.dat (lst N fun i => .bool (al i))), some (.dat (nD t)), some (.dat (nD N)), some (.dat (lst (N + 1) fun i => kdD (k' i))), some (.dat (lst (N + 1) fun i => .tuple [nD (z' i false), nD (z' i true)])), some (.dat (lst (N + 1) fun i => nD (P i))), some (.obj S'.length), none, x10, x11, x12, none, none] ∧ S2 = S' ++ [some (.lst (nW (two l (P (z' x false)) (P (z' x true)) i)))]) ?_ ?_ _ 0 _ _ (by simp [walkFuel]) (by omega) ⟨_, rfl, rfl⟩
            · rintro i w g S2 hw ⟨x11, rfl, rfl⟩
              have hw' : ∃ b, w = .dat (nD (z' x b)) ∧ two l (P (z' x false)) (P (z' x true)) (i + 1) = push (two l (P (z' x false)) (P (z' x true)) i) (P (z' x b)) ∧ (two l (P (z' x false)) (P (z' x true)) i).length ≤ N + 5 := by
                have pl : ∀ (l : List Nat) (y : Nat), (push l y).length ≤ l.length + 1 := fun l y => by unfold push; split <;> simp
                have := pl l (P (z' x false))
                rcases i with _ | _ | i
                · exact ⟨false, (Option.some.inj hw).symm, rfl, by show l.length ≤ _; omega⟩
                · exact ⟨true, (Option.some.inj hw).symm, rfl, by show (push l (P (z' x false))).length ≤ _; omega⟩
                · simp at hw
              obtain ⟨b, rfl, e2, hl1⟩ := hw'
              rw [e2]
              generalize two l (P (z' x false)) (P (z' x true)) i = l1 at hl1
              have zx := zlt x b hxN
              repeat fail
              refine wp_cmp (notin_obj get_last) ?_
              repeat fail
              by_cases hm : P (z' x b) ∈ l1
              · refine wp_condF (by rw [decide_eq_true hm]; rfl) ?_
                repeat fail
                exact ⟨_, rfl, by unfold push; rw [if_pos hm]⟩
              · refine wp_condT (by rw [decide_eq_false hm]; rfl) ?_
                repeat fail
                refine wp_recv (recv_append get_last) ?_
                repeat fail
                refine wp_method (append_obj get_last (by simp; omega)) ?_
                rw [set_last]
                repeat fail
                exact ⟨_, rfl, by unfold push; rw [if_neg hm]; simp [nW]⟩
            · rintro g S2 ⟨x11, rfl, rfl⟩
              repeat fail
              exact ⟨_, _, _, _, rfl, rfl⟩
          · have htl : ¬ t < l.length := by have := of_decide_eq_false h; omega
            have hst : stepB (fun i b => P (z' i b)) l t = l := by unfold stepB; rw [List.getElem?_eq_none (by omega)]
            rw [hst]
            repeat fail
            exact ⟨_, _, _, _, rfl, rfl⟩
        · rintro g S2 ⟨x3, x10, x11, x12, rfl, rfl⟩
          rw [List.length_map, List.length_range]
          repeat fail
          refine wp_walkV (walk_obj get_last) ?_
          generalize ho : bfs (fun i b => P (z' i b)) (P s) (N + 1) = ord
          have M : Making rs s k' z' P ord (ord.map fun x => (ord.idxOf (P (z' x false)), ord.idxOf (P (z' x true)), k' x)) := by
            refine ⟨F, by rw [hN]; exact hs, fun i hi => kend i (by omega), fun i hi h => ?_, fun i hi h => ?_, fun i b hi h => zop i b (by omega) h, fun i b h => by rw [hN]; exact zno i b h, by rw [hN]; exact cP, by rw [hN]; exact rP, by rw [hN]; exact ho.symm, rfl⟩
            · rw [hN] at hi
              rw [klt i hi, if_pos ((hal i hi).mpr h)]
            · rw [hN] at hi
              rw [klt i hi, if_neg fun q => h ((hal i hi).mp q)]
          have hol := M.ord_len
          have hox := M.ord_lt
          rw [hN] at hol hox
          repeat fail
          refine wp_compN (l := ord) (fun x => .dat (.tuple [nD (ord.idxOf (P (z' x false))), nD (ord.idxOf (P (z' x true))), kdD (k' x)])) get_last (by omega) (fun x hx => ?_) ?_
          · have hxN := hox x hx
            have z0 := zlt x false hxN
            have z1 := zlt x true hxN
            repeat fail
            refine wp_recv (recv_index get_last) ?_
            repeat fail
            refine wp_method (index_obj get_last (M.ord_closed x false hx)) ?_
            repeat fail
            refine wp_recv (recv_index get_last) ?_
            repeat fail
            refine wp_method (index_obj get_last (M.ord_closed x true hx)) ?_
            repeat fail
            exact ⟨rfl, rfl⟩
          have en : ∀ S, newList false (ord.map fun x => W.dat (.tuple [nD (ord.idxOf (P (z' x false))), nD (ord.idxOf (P (z' x true))), kdD (k' x)])) S = .ok (.dat (rowsD (ord.map fun x => (ord.idxOf (P (z' x false)), ord.idxOf (P (z' x true)), k' x)))) S := by
            intro S
            have := newList_dat (S := S) (ds := (ord.map fun x => (ord.idxOf (P (z' x false)), ord.idxOf (P (z' x true)), k' x)).map rowD)
            rw [List.map_map, List.map_map] at this
            exact this
          refine wp_newList (en _) ?_
          repeat fail
          exact ⟨⟨_, _, _, _, _, M, rfl⟩, take_app⟩
      · refine wp_condF (decide_eq_false he) ?_
        repeat fail
        exact ⟨_, _, _, _, rfl, rfl, alI_next F I (by rw [hN]; exact he)⟩
    · rintro g S' ⟨al, x3, x10, x12, rfl, rfl, I⟩
      rw [List.length_map, List.length_range] at I
      exact (alI_stop F (by rw [hN]; exact I)).elim
  obtain ⟨a, S', h1, ⟨k', z', P, ord, w, M, rfl⟩, rfl⟩ := ex_of_wp key
  exact ⟨k', z', P, ord, w, M, h1⟩
end K29
end

section
set_option Elab.async false
set_option linter.all false
set_option maxRecDepth 100000
set_option maxHeartbeats 1000000
set_option autoImplicit false
/-! KL5: what has the form of rows. -/
open PySem L2 Mp Mp.Q KM
local macro_rules
  | `(tactic| fail) => `(tactic| first
    | with_reducible refine wp_nxS ?_
    | with_reducible refine wp_rtS ?_
    | with_reducible refine wp_bkS ?_
    | with_reducible refine wp_ctS ?_
    | with_reducible refine wp_xcS ?_
    | with_reducible refine wp_nxF ?_
    | with_reducible refine wp_ctF ?_
    | with_reducible refine wp_bkF ?_
    | with_reducible refine wp_rtF ?_
    | with_reducible refine wp_xcF ?_
    | with_reducible refine wp_nxD ?_
    | with_reducible refine wp_rtD ?_
    | with_reducible refine wp_rtC ?_
    | with_reducible refine wp_rtO ?_
    | with_reducible refine wp_xcD ?_
    | with_reducible refine wp_ret ?_
    | with_reducible refine wp_seq ?_
    | with_reducible refine wp_bndE ?_
    | with_reducible refine wp_bnd ?_
    | ((with_reducible apply wp_getS); · rfl)
    | with_reducible refine wp_evs_cons ?_
    | with_reducible refine wp_evs_nil ?_
    | with_reducible refine wp_tup ?_
    | with_reducible refine wp_and1 ?_
    | with_reducible refine wp_and ?_
    | with_reducible refine wp_or1 ?_
    | with_reducible refine wp_or ?_
    | with_reducible refine wp_boolV1 ?_
    | with_reducible refine wp_boolA ?_
    | with_reducible refine wp_boolO ?_
    | with_reducible refine wp_opt ?_
    | with_reducible refine optQ_int ?_
    | with_reducible refine wp_listD ?_
    | with_reducible refine wp_listL ?_
    | refine ⟨[], rfl, Nat.le_of_ble_eq_true rfl, ?_⟩
    | refine ⟨[_], rfl, Nat.le_of_ble_eq_true rfl, ?_⟩
    | refine ⟨[_, _], rfl, Nat.le_of_ble_eq_true rfl, ?_⟩
    | refine ⟨[_, _, _], rfl, Nat.le_of_ble_eq_true rfl, ?_⟩
    | refine ⟨[_, _, _, _], rfl, Nat.le_of_ble_eq_true rfl, ?_⟩
    | refine ⟨[_, _, _, _, _], rfl, Nat.le_of_ble_eq_true rfl, ?_⟩
    | refine ⟨[_, _, _, _, _, _], rfl, Nat.le_of_ble_eq_true rfl, ?_⟩
    | refine ⟨[_, _, _, _, _, _, _], rfl, Nat.le_of_ble_eq_true rfl, ?_⟩
    | ((with_reducible apply wp_blt); · with_reducible exact len_lst)
    | ((with_reducible apply wp_walkV); · with_reducible exact walk_lst)
    | ((with_reducible apply wp_enum); · with_reducible exact enum_lst)
    | ((with_reducible apply wp_cmp); · with_reducible exact eq_int)
    | ((with_reducible apply wp_cmp); · with_reducible exact ne_int)
    | ((with_reducible apply wp_bin); · with_reducible exact bin_add)
    | ((with_reducible apply wp_bin); · with_reducible exact bin_sub)
    | ((with_reducible apply wp_bin); · with_reducible exact bin_mod (by decide))
    | ((with_reducible apply wp_bin); · with_reducible exact bin_fdiv (by decide) (by decide))
    | ((with_reducible apply wp_bin); · with_reducible exact bin_pow (by decide))
    | ((with_reducible apply wp_cmp); · rfl)
    | ((with_reducible apply wp_truth); · rfl)
    | ((with_reducible apply wp_asBool); · rfl)
    | ((with_reducible apply wp_isi); · rfl)
    | ((with_reducible apply wp_neg); · rfl)
    | ((with_reducible apply wp_asgTup); · rfl)
    | ((with_reducible apply wp_item); · with_reducible exact item_lst (by omega))
    | ((with_reducible apply wp_item); · rfl)
    | ((with_reducible refine wp_condT ?_ ?_); · rfl)
    | ((with_reducible refine wp_condF ?_ ?_); · rfl))
namespace K29
/-- data without dicts, not too deep -/
structure Fine (v : PyData) : Prop where
  lay : v.canLay0 = true
  deep : v.depth ≤ 40
theorem Fine.ok {v : PyData} (h : Fine v) : depthOk v = true := by
  unfold depthOk SeqAt.shaped
  rw [h.lay, decide_eq_true (by have := h.deep; omega)]
  rfl
theorem fine_mem : ∀ {ds : List PyData} {d : PyData}, PyData.canLayAll0 ds = true → d ∈ ds → d.canLay0 = true ∧ d.depth ≤ PyData.depthAll ds
  | [], d, _, h => by cases h
  | x :: ds, d, hl, h => by
    simp only [PyData.canLayAll0, Bool.and_eq_true] at hl
    simp only [PyData.depthAll]
    rcases List.mem_cons.mp h with rfl | h
    · exact ⟨hl.1, by omega⟩
    · have := fine_mem hl.2 h
      exact ⟨this.1, by omega⟩
theorem Fine.item {ds : List PyData} (h : Fine (.list ds)) {d : PyData} (hd : d ∈ ds) : Fine d := by
  have h1 := h.lay
  have h2 := h.deep
  simp only [PyData.canLay0, PyData.depth] at h1 h2
  have := fine_mem h1 hd
  exact ⟨this.1, by omega⟩
theorem Fine.part {ds : List PyData} (h : Fine (.tuple ds)) {d : PyData} (hd : d ∈ ds) : Fine d := by
  have h1 := h.lay
  have h2 := h.deep
  simp only [PyData.canLay0, PyData.depth] at h1 h2
  have := fine_mem h1 hd
  exact ⟨this.1, by omega⟩
theorem Fine.nodict {kvs : List (PyData × PyData)} (h : Fine (.dict kvs)) : False := by
  have := h.lay
  simp [PyData.canLay0] at this
def is_list : PyData → Bool
  | .list _ => true
  | _ => false
def is_tuple : PyData → Bool
  | .tuple _ => true
  | _ => false
def is_str : PyData → Bool
  | .str _ => true
  | _ => false
def is_bool : PyData → Bool
  | .bool _ => true
  | _ => false
def is_int : PyData → Bool
  | .int _ => true
  | .bool _ => true
  | _ => false
def idxB (n : Nat) : PyData → Bool
  | .int i => decide (0 ≤ i) && decide (i < n)
  | _ => false
def kindB : PyData → Bool
  | .str k => decide (k = "open") || decide (k = "whole") || decide (k = "dead")
  | _ => false
def rowOk (n : Nat) : PyData → Bool
  | .tuple [a, b, c] => idxB n a && idxB n b && kindB c
  | _ => false
def formedB : PyData → Bool
  | .list ds => !ds.isEmpty && ds.all (rowOk ds.length)
  | _ => false
theorem formedB_bad {ds : List PyData} {d : PyData} (hd : d ∈ ds) (h : rowOk ds.length d = false) : formedB (.list ds) = false := by
  have : ds.all (rowOk ds.length) = false := by
    rw [List.all_eq_false]
    exact ⟨d, hd, by rw [h]; decide⟩
  show (!ds.isEmpty && ds.all (rowOk ds.length)) = false
  rw [this, Bool.and_false]
section
variable {S : Store}
theorem isi_list {v : PyData} (h : Fine v) : isiM "list" (.dat v) S = .ok (.dat (.bool (is_list v))) S := by
  cases v with
  | dict kvs => exact h.nodict.elim
  | _ => rfl
theorem isi_tuple {v : PyData} (h : Fine v) : isiM "tuple" (.dat v) S = .ok (.dat (.bool (is_tuple v))) S := by
  cases v with
  | dict kvs => exact h.nodict.elim
  | _ => rfl
theorem isi_str {v : PyData} (h : Fine v) : isiM "str" (.dat v) S = .ok (.dat (.bool (is_str v))) S := by
  cases v with
  | dict kvs => exact h.nodict.elim
  | _ => rfl
theorem isi_int {v : PyData} (h : Fine v) : isiM "int" (.dat v) S = .ok (.dat (.bool (is_int v))) S := by
  cases v with
  | dict kvs => exact h.nodict.elim
  | _ => rfl
theorem isi_bool {v : PyData} (h : Fine v) : isiM "bool" (.dat v) S = .ok (.dat (.bool (is_bool v))) S := by
  cases v with
  | dict kvs => exact h.nodict.elim
  | _ => rfl
theorem eq_nil {ds : List PyData} (h : Fine (.list ds)) : cmpOp .Eq (.dat (.list ds)) (.dat (.list [])) S = .ok ds.isEmpty S := by
  have e : cmpOp .Eq (.dat (.list ds)) (.dat (.list [])) S = (if depthOk (.list ds) = true ∧ depthOk (.list []) = true then Res.ok (PyData.eqv (.list ds) (.list [])) S else .stuck) := rfl
  rw [e, if_pos ⟨h.ok, depthOk_plain (n := 1) rfl (by decide)⟩]
  cases ds <;> simp [PyData.eqv, PyData.eqvAll]
theorem any_kinds (c : PyData) : ([.str "open", .str "whole", .str "dead"] : List PyData).any (fun z => PyData.eqv z c) = kindB c := by
  cases c with
  | str k =>
    have hb : ∀ a : Str, (a == k) = decide (k = a) := fun a => by
      by_cases h : k = a
      · subst h; simp
      · rw [decide_eq_false h]; exact beq_false_of_ne fun e => h e.symm
    simp only [List.any_cons, List.any_nil, PyData.eqv, kindB, hb, Bool.or_false, Bool.or_assoc]
  | _ => simp [PyData.eqv, kindB]
theorem plain_kinds : plainAll 0 [.str "open", .str "whole", .str "dead"] = true := by decide +kernel
theorem notin_kinds {c : PyData} (h : Fine c) : cmpOp .NotIn (.dat c) (.dat (.list [.str "open", .str "whole", .str "dead"])) S = .ok (!kindB c) S := by
  have e : isIn (.dat c) (.dat (.list [.str "open", .str "whole", .str "dead"])) S = .ok (kindB c) S := by
    have p : depthOk (.list [.str "open", .str "whole", .str "dead"]) = true := depthOk_plain (n := 1) plain_kinds (by decide)
    have : isIn (.dat c) (.dat (.list [.str "open", .str "whole", .str "dead"])) S = (if depthOk c = true ∧ depthOk (.list [.str "open", .str "whole", .str "dead"]) = true then Res.ok (([.str "open", .str "whole", .str "dead"] : List PyData).any fun z => PyData.eqv z c) S else .stuck) := by
      cases c <;> rfl
    rw [this, if_pos ⟨h.ok, p⟩, any_kinds]
  show bnd (isIn (.dat c) (.dat (.list [.str "open", .str "whole", .str "dead"]))) (fun b => ret (!b)) S = _
  unfold bnd
  rw [e]
  rfl
theorem notin_kindsT {c : PyData} (h : Fine c) : cmpOp .NotIn (.dat c) (.con (.tuple [.str "open", .str "whole", .str "dead"])) S = .ok (!kindB c) S := by
  have e : isIn (.dat c) (.con (.tuple [.str "open", .str "whole", .str "dead"])) S = .ok (kindB c) S := by
    have p : depthOk (.tuple [.str "open", .str "whole", .str "dead"]) = true := depthOk_plain (n := 1) plain_kinds (by decide)
    have : isIn (.dat c) (.con (.tuple [.str "open", .str "whole", .str "dead"])) S = (if depthOk c = true ∧ depthOk (.tuple [.str "open", .str "whole", .str "dead"]) = true then Res.ok (([.str "open", .str "whole", .str "dead"] : List PyData).any fun z => PyData.eqv z c) S else .stuck) := by
      cases c <;> rfl
    rw [this, if_pos ⟨h.ok, p⟩, any_kinds]
  show bnd (isIn (.dat c) (.con (.tuple [.str "open", .str "whole", .str "dead"]))) (fun b => ret (!b)) S = _
  unfold bnd
  rw [e]
  rfl
end
theorem slice_two {a b c : PyData} {S : Store} : sliceOf false (.dat (.tuple [a, b, c])) none (some 2) S = .ok (.dat (.tuple [a, b])) S := by
  have e1 : HT.sIx 3 0 none = 0 := by decide
  have e2 : HT.sIx 3 3 (some 2) = 2 := by decide
  have e : sliceOf false (.dat (.tuple [a, b, c])) none (some 2) S = (if HT.sIx 3 0 none = 0 ∧ HT.sIx 3 3 (some 2) = 3 then .stuck else match allDat (cutW [.dat a, .dat b, .dat c] none (some 2)) with
    | some ds => .ok (.dat (.tuple ds)) S
    | none => .stuck) := rfl
  rw [e, if_neg (by rw [e2]; decide)]
  have : cutW [W.dat a, .dat b, .dat c] none (some 2) = [.dat a, .dat b] := by
    show (List.drop (HT.sIx 3 0 none) [W.dat a, .dat b, .dat c]).take (HT.sIx 3 3 (some 2) - HT.sIx 3 0 none) = _
    rw [e1, e2]
    rfl
  rw [this]
  rfl
theorem law_formed_ok (n : Nat) (v : PyData) (S : Store) (hv : Fine v) (hl : ∀ ds, v = .list ds → ds.length ≤ 900) : calls G ds (n + 1) "_law_formed" [.dat v] S = .ok (.dat (.bool (formedB v))) S := by
  refine eq_of_wp (c_law_formed ?_)
  unfold p_law_formed
  repeat fail
  refine wp_isi (isi_list hv) ?_
  cases v with
  | list ds =>
    repeat fail
    refine wp_cmp (eq_nil hv) ?_
    repeat fail
    refine wp_cond (fun h => ?_) fun h => ?_
    · repeat fail
      exact ⟨by show _ = W.dat (.bool (!ds.isEmpty && _)); rw [h]; rfl, List.take_length⟩
    repeat fail
    refine wp_walkV walk_list ?_
    have hlen := hl ds rfl
    refine wp_for (fun i g S' => ∃ x1 x2 : Option W, g = [some (.dat (.list ds)), x1, x2] ∧ S' = S ∧ ∀ d ∈ ds.take i, rowOk ds.length d = true) ?_ ?_ _ 0 _ _ (by simp [walkFuel]; omega) (by omega) ⟨_, _, rfl, rfl, by simp⟩
    · rintro i w g S' hw ⟨x1, x2, rfl, rfl, hI⟩
      rw [List.getElem?_map] at hw
      cases e : ds[i]? with
      | none => rw [e] at hw; cases hw
      | some d =>
        rw [e] at hw
        cases hw
        have hm : d ∈ ds := List.mem_of_getElem? e
        have fd := hv.item hm
        have et : ds.take (i + 1) = ds.take i ++ [d] := by rw [List.take_add_one, e]; rfl
        have bad : rowOk ds.length d = false → formedB (.list ds) = false := formedB_bad hm
        repeat fail
        refine wp_isi (isi_tuple fd) ?_
        cases d with
        | tuple xs =>
          repeat fail
          refine wp_blt len_tup ?_
          repeat fail
          by_cases h3 : xs.length = 3
          · obtain ⟨a, b, c, rfl⟩ : ∃ a b c, xs = [a, b, c] := by
              match xs, h3 with
              | [a, b, c], _ => exact ⟨a, b, c, rfl⟩
            repeat fail
            refine wp_cmp (notin_kinds (fd.part (by simp))) ?_
            repeat fail
            refine wp_cond (fun hk => ?_) fun hk => ?_
            · repeat fail
              have hk : kindB c = false := by simpa using hk
              exact ⟨by rw [bad (by show (idxB ds.length a && idxB ds.length b && kindB c) = false; rw [hk, Bool.and_false])], List.take_length⟩
            have hk : kindB c = true := by simpa using hk
            repeat fail
            refine wp_slice slice_two ?_
            repeat fail
            refine wp_walkV walk_tup ?_
            have badx : ∀ x ∈ [a, b], idxB ds.length x = false → formedB (.list ds) = false := fun x hx h => bad (by
              show (idxB ds.length a && idxB ds.length b && kindB c) = false
              rcases List.mem_cons.mp hx with rfl | hx
              · rw [h]; rfl
              · rw [List.mem_singleton] at hx
                subst hx
                rw [h, Bool.and_false]; rfl)
            refine wp_for (fun j g S2 => ∃ x2 : Option W, g = [some (.dat (.list ds)), some (.dat (.tuple [a, b, c])), x2] ∧ S2 = S' ∧ ∀ d ∈ [a, b].take j, idxB ds.length d = true) ?_ ?_ _ 0 _ _ (by simp [walkFuel]) (by omega) ⟨_, rfl, rfl, by simp⟩
            · rintro j w g S2 hw ⟨x2, rfl, rfl, hJ⟩
              rw [List.getElem?_map] at hw
              cases e2 : [a, b][j]? with
              | none => rw [e2] at hw; cases hw
              | some x =>
                rw [e2] at hw
                cases hw
                have hx : x ∈ [a, b] := List.mem_of_getElem? e2
                have fx : Fine x := fd.part (by simp at hx ⊢; rcases hx with h | h <;> simp [h])
                have et2 : [a, b].take (j + 1) = [a, b].take j ++ [x] := by rw [List.take_add_one, e2]; rfl
                have badx := badx x hx
                repeat fail
                refine wp_isi (isi_int fx) ?_
                cases x with
                | int q =>
                  repeat fail
                  refine wp_cond (fun h0 => ?_) fun h0 => ?_
                  · repeat fail
                    refine wp_blt len_list ?_
                    repeat fail
                    refine wp_cond (fun h1 => ?_) fun h1 => ?_
                    · repeat fail
                      have h1 := of_decide_eq_false ((Bool.not_eq_true' _).mp h1)
                      exact ⟨by rw [badx (by show (decide (0 ≤ q) && decide (q < _)) = false; rw [decide_eq_false h1, Bool.and_false])], List.take_length⟩
                    · repeat fail
                      have h1 : q < ds.length := by simpa using h1
                      refine ⟨_, rfl, rfl, fun d hd => ?_⟩
                      rw [et2] at hd
                      rcases List.mem_append.mp hd with hd | hd
                      · exact hJ d hd
                      · rw [List.mem_singleton] at hd
                        subst hd
                        show (decide (0 ≤ q) && decide (q < _)) = true
                        rw [h0, decide_eq_true h1]
                        rfl
                  · repeat fail
                    exact ⟨by rw [badx (by show (decide (0 ≤ q) && decide (q < _)) = false; rw [h0]; rfl)], List.take_length⟩
                | bool q =>
                  repeat fail
                  exact ⟨by rw [badx rfl], List.take_length⟩
                | _ =>
                  repeat fail
                  exact ⟨by rw [badx rfl], List.take_length⟩
            · rintro g S2 ⟨x2, rfl, rfl, hJ⟩
              repeat fail
              refine ⟨_, _, rfl, rfl, fun d hd => ?_⟩
              rw [et] at hd
              rcases List.mem_append.mp hd with hd | hd
              · exact hI d hd
              · rw [List.mem_singleton] at hd
                subst hd
                show (idxB ds.length a && idxB ds.length b && kindB c) = true
                rw [hJ a (by simp), hJ b (by simp), hk]
                rfl
          · refine wp_condT (by rw [decide_eq_false (by omega)]; rfl) ?_
            repeat fail
            refine ⟨by rw [bad (by
              match xs, h3 with
              | [], _ => rfl
              | [_], _ => rfl
              | [_, _], _ => rfl
              | [_, _, _], h => exact absurd rfl h
              | _ :: _ :: _ :: _ :: _, _ => rfl)], List.take_length⟩
        | _ =>
          repeat fail
          exact ⟨by rw [bad rfl], List.take_length⟩
    · rintro g S' ⟨x1, x2, rfl, rfl, hI⟩
      repeat fail
      refine ⟨?_, List.take_length⟩
      rw [List.length_map, List.take_length] at hI
      show _ = W.dat (.bool (!ds.isEmpty && ds.all (rowOk ds.length)))
      rw [h, List.all_eq_true.mpr hI]
      rfl
  | _ =>
    repeat fail
    exact ⟨rfl, List.take_length⟩
end K29
end

section
set_option Elab.async false
set_option linter.all false
set_option maxRecDepth 100000
set_option maxHeartbeats 1000000
set_option autoImplicit false
/-! KL6: texts of data. -/
open PySem L2 Mp Mp.Q KM
namespace Mp.Q
open PySem.PyData PySem.F
theorem strOk_app {a b : Str} (ha : strOk a = true) (hb : strOk b = true) : strOk (a ++ b) = true := by
  show (a.cps ++ b.cps).all (· < 0x110000) = true
  rw [Array.all_append]
  unfold strOk at ha hb
  rw [ha, hb]
  rfl
theorem strOk_lit (s : String) : strOk (Str.ofString s) = true := by
  rw [Str.ofString_eq_toList]
  unfold strOk
  rw [Array.all_eq_true']
  intro c hc
  simp at hc
  obtain ⟨a, _, rfl⟩ := hc
  have h := a.valid
  refine decide_eq_true ?_
  show a.val.toNat < 1114112
  rcases h with h | ⟨h1, h2⟩ <;> omega
theorem textFrom_ok : ∀ (ts : List Str) (k : Nat) (acc : Str), strOk acc = true → (∀ t ∈ ts, strOk t = true) → strOk (textFrom k acc ts) = true ∧ (textFrom k acc ts).length ≤ acc.length + piled ts
  | [], k, acc, h, _ => ⟨h, by show acc.length ≤ _; omega⟩
  | t :: r, k, acc, h, ht => by
    have ih := textFrom_ok r (k + 1) (acc ++ (if k > 0 then ", " else "" : String) ++ t) (strOk_app (strOk_app h (strOk_lit _)) (ht t (by simp))) fun x hx => ht x (by simp [hx])
    refine ⟨ih.1, ?_⟩
    have e : (acc ++ ((if k > 0 then ", " else "" : String) : Str) ++ t).length ≤ acc.length + 2 + t.length := by
      rw [strLen_append, strLen_append]
      have : ((if k > 0 then ", " else "" : String) : Str).length ≤ 2 := by
        split
        · decide +kernel
        · decide +kernel
      omega
    have h2 := ih.2
    rw [piled_cons]
    show (textFrom (k + 1) (acc ++ (if k > 0 then ", " else "" : String) ++ t) r).length ≤ _
    omega
theorem join_ok : ∀ ts : List Str, (∀ t ∈ ts, strOk t = true) → strOk (Str.join ", " ts) = true ∧ (Str.join ", " ts).length ≤ piled ts
  | [], _ => ⟨by decide +kernel, by decide +kernel⟩
  | [x], h => ⟨h x (by simp), by show x.length ≤ _; simp [piled]⟩
  | x :: y :: r, h => by
    have ih := join_ok (y :: r) fun t ht => h t (by simp [ht])
    have e : Str.join ", " (x :: y :: r) = x ++ ", " ++ Str.join ", " (y :: r) := rfl
    rw [e]
    refine ⟨strOk_app (strOk_app (h x (by simp)) (strOk_lit _)) ih.1, ?_⟩
    rw [strLen_append, strLen_append, piled_cons]
    have : ((", " : String) : Str).length = 2 := by decide +kernel
    omega
/-- ints and texts that are said -/
def sayI (i : Int) : Bool := decide (-1 ≤ i) && decide (i < 100) || decide (i = 10 ^ 30)
def words : List Str := ["open", "whole", "dead", "opened", "", "row", "rows", "0"]
def sayS (x : Str) : Bool := words.any fun w => decide (w = x)
mutual
def sayB : PyData → Bool
  | .none => true
  | .bool _ => true
  | .int i => sayI i
  | .str x => sayS x
  | .list xs => sayAll xs
  | .tuple xs => sayAll xs
  | .dict _ => false
def sayAll : List PyData → Bool
  | [] => true
  | x :: xs => sayB x && sayAll xs
end
mutual
def sz : PyData → Nat
  | .none => 5
  | .bool _ => 5
  | .int _ => 40
  | .str _ => 20
  | .list xs => 5 + szAll xs
  | .tuple xs => 5 + szAll xs
  | .dict _ => 0
def szAll : List PyData → Nat
  | [] => 0
  | x :: xs => sz x + 2 + szAll xs
end
theorem sayI_ok (i : Int) (h : sayI i = true) : ((toString i : String) : Str).length ≤ 40 ∧ i.natAbs.log2 < 1920 := by
  unfold sayI at h
  simp only [Bool.or_eq_true, Bool.and_eq_true, decide_eq_true_eq] at h
  rcases h with ⟨h1, h2⟩ | rfl
  · have key : ∀ k : Fin 101, ((toString ((k.val : Int) - 1) : String) : Str).length ≤ 40 ∧ ((k.val : Int) - 1).natAbs.log2 < 1920 := by decide +kernel
    have := key ⟨(i + 1).toNat, by omega⟩
    have e : (((⟨(i + 1).toNat, by omega⟩ : Fin 101).val : Int)) - 1 = i := by show ((i + 1).toNat : Int) - 1 = i; omega
    rw [e] at this
    exact this
  · decide +kernel
theorem sayS_ok (x : Str) (h : sayS x = true) : strOk (reprText x) = true ∧ (reprText x).length ≤ 20 ∧ strOk x = true := by
  have key : ∀ w ∈ words, strOk (reprText w) = true ∧ (reprText w).length ≤ 20 ∧ strOk w = true := by decide +kernel
  unfold sayS at h
  rw [List.any_eq_true] at h
  obtain ⟨w, hw, e⟩ := h
  have := of_decide_eq_true e
  subst this
  exact key _ hw
mutual
theorem say_ok : ∀ v : PyData, sayB v = true → v.showable = true ∧ strOk v.shown = true ∧ v.shown.length ≤ sz v
  | .none, _ => by
    simp only [showable, shown, sz]
    exact ⟨trivial, strOk_lit _, by decide +kernel⟩
  | .bool b, _ => by
    simp only [showable, shown, sz]
    cases b
    · exact ⟨trivial, strOk_lit _, by decide +kernel⟩
    · exact ⟨trivial, strOk_lit _, by decide +kernel⟩
  | .int i, h => by
    simp only [sayB] at h
    have := sayI_ok i h
    simp only [showable, shown, sz]
    exact ⟨decide_eq_true this.2, strOk_lit _, this.1⟩
  | .str x, h => by
    simp only [sayB] at h
    have := sayS_ok x h
    simp only [showable, shown, sz]
    exact ⟨trivial, this.1, this.2.1⟩
  | .list xs, h => by
    simp only [sayB] at h
    have ⟨h1, h2, h3⟩ := sayAll_ok xs h
    simp only [showable, shown, sz]
    have := textFrom_ok (shownAll xs) 0 "[" (strOk_lit _) h2
    refine ⟨h1, strOk_app this.1 (strOk_lit _), ?_⟩
    show (textFrom 0 "[" (shownAll xs) ++ ("]" : Str)).length ≤ _
    rw [strLen_append]
    have e1 : (("[" : String) : Str).length = 1 := by decide +kernel
    have e2 : (("]" : String) : Str).length = 1 := by decide +kernel
    have := this.2
    omega
  | .tuple xs, h => by
    simp only [sayB] at h
    have ⟨h1, h2, h3⟩ := sayAll_ok xs h
    simp only [showable, shown, sz]
    have := join_ok (shownAll xs) h2
    refine ⟨h1, strOk_app (strOk_app (strOk_lit _) this.1) (strOk_lit _), ?_⟩
    show (("(" : Str) ++ Str.join ", " (shownAll xs) ++ ((if (shownAll xs).length == 1 then ",)" else ")" : String) : Str)).length ≤ _
    rw [strLen_append, strLen_append]
    have e1 : (("(" : String) : Str).length = 1 := by decide +kernel
    have e2 : ((if (shownAll xs).length == 1 then ",)" else ")" : String) : Str).length ≤ 2 := by
      split
      · decide +kernel
      · decide +kernel
    have := this.2
    omega
  | .dict x, h => by simp [sayB] at h
theorem sayAll_ok : ∀ xs : List PyData, sayAll xs = true → showableAll xs = true ∧ (∀ t ∈ shownAll xs, strOk t = true) ∧ piled (shownAll xs) ≤ szAll xs
  | [], _ => by simp [showableAll, shownAll, szAll, piled]
  | x :: xs, h => by
    simp only [sayAll, Bool.and_eq_true] at h
    have ⟨a1, a2, a3⟩ := say_ok x h.1
    have ⟨b1, b2, b3⟩ := sayAll_ok xs h.2
    simp only [showableAll, shownAll, szAll, a1, b1, piled_cons]
    refine ⟨rfl, fun t ht => ?_, by omega⟩
    rcases List.mem_cons.mp ht with rfl | ht
    · exact a2
    · exact b2 t ht
end
theorem repr_ok {v : PyData} {l : Bool} {S : Store} (h : sayB v = true) (hd : depthOk v = true) (hz : sz v ≤ 1000000) : blt l "repr" [.dat v] S = .ok (.dat (.str v.shown)) S := by
  have ⟨h1, h2, h3⟩ := say_ok v h
  have hr : roomy v.shown.length = true := decide_eq_true (by omega)
  have e : blt l "repr" [.dat v] S = (if v.showable = true ∧ depthOk v = true ∧ roomy v.shown.length = true then Res.ok (W.dat (.str v.shown)) S else .stuck) := rfl
  rw [e, if_pos ⟨h1, hd, hr⟩]
end Mp.Q
end

section
set_option Elab.async false
set_option linter.all false
set_option maxRecDepth 100000
set_option maxHeartbeats 1000000
set_option autoImplicit false
/-! KL7: met, is_met_in_order. -/
open PySem L2 Mp Mp.Q KM
local macro_rules
  | `(tactic| fail) => `(tactic| first
    | with_reducible refine wp_nxS ?_
    | with_reducible refine wp_rtS ?_
    | with_reducible refine wp_bkS ?_
    | with_reducible refine wp_ctS ?_
    | with_reducible refine wp_xcS ?_
    | with_reducible refine wp_nxF ?_
    | with_reducible refine wp_ctF ?_
    | with_reducible refine wp_bkF ?_
    | with_reducible refine wp_rtF ?_
    | with_reducible refine wp_xcF ?_
    | with_reducible refine wp_nxD ?_
    | with_reducible refine wp_rtD ?_
    | with_reducible refine wp_rtC ?_
    | with_reducible refine wp_rtO ?_
    | with_reducible refine wp_xcD ?_
    | with_reducible refine wp_ret ?_
    | with_reducible refine wp_seq ?_
    | with_reducible refine wp_bndE ?_
    | with_reducible refine wp_bnd ?_
    | ((with_reducible apply wp_getS); · rfl)
    | with_reducible refine wp_evs_cons ?_
    | with_reducible refine wp_evs_nil ?_
    | with_reducible refine wp_tup ?_
    | with_reducible refine wp_and1 ?_
    | with_reducible refine wp_and ?_
    | with_reducible refine wp_or1 ?_
    | with_reducible refine wp_or ?_
    | with_reducible refine wp_boolV1 ?_
    | with_reducible refine wp_boolA ?_
    | with_reducible refine wp_boolO ?_
    | with_reducible refine wp_opt ?_
    | with_reducible refine optQ_int ?_
    | with_reducible refine wp_listD ?_
    | with_reducible refine wp_listL ?_
    | refine ⟨[], rfl, Nat.le_of_ble_eq_true rfl, ?_⟩
    | refine ⟨[_], rfl, Nat.le_of_ble_eq_true rfl, ?_⟩
    | refine ⟨[_, _], rfl, Nat.le_of_ble_eq_true rfl, ?_⟩
    | refine ⟨[_, _, _], rfl, Nat.le_of_ble_eq_true rfl, ?_⟩
    | refine ⟨[_, _, _, _], rfl, Nat.le_of_ble_eq_true rfl, ?_⟩
    | refine ⟨[_, _, _, _, _], rfl, Nat.le_of_ble_eq_true rfl, ?_⟩
    | refine ⟨[_, _, _, _, _, _], rfl, Nat.le_of_ble_eq_true rfl, ?_⟩
    | refine ⟨[_, _, _, _, _, _, _], rfl, Nat.le_of_ble_eq_true rfl, ?_⟩
    | ((with_reducible apply wp_blt); · with_reducible exact len_lst)
    | ((with_reducible apply wp_walkV); · with_reducible exact walk_lst)
    | ((with_reducible apply wp_enum); · with_reducible exact enum_lst)
    | ((with_reducible apply wp_cmp); · with_reducible exact eq_int)
    | ((with_reducible apply wp_cmp); · with_reducible exact ne_int)
    | ((with_reducible apply wp_bin); · with_reducible exact bin_add)
    | ((with_reducible apply wp_bin); · with_reducible exact bin_sub)
    | ((with_reducible apply wp_bin); · with_reducible exact bin_mod (by decide))
    | ((with_reducible apply wp_bin); · with_reducible exact bin_fdiv (by decide) (by decide))
    | ((with_reducible apply wp_bin); · with_reducible exact bin_pow (by decide))
    | ((with_reducible apply wp_cmp); · rfl)
    | ((with_reducible apply wp_truth); · rfl)
    | ((with_reducible apply wp_asBool); · rfl)
    | ((with_reducible apply wp_isi); · rfl)
    | ((with_reducible apply wp_neg); · rfl)
    | ((with_reducible apply wp_asgTup); · rfl)
    | ((with_reducible apply wp_item); · with_reducible exact item_lst (by omega))
    | ((with_reducible apply wp_item); · rfl)
    | ((with_reducible refine wp_condT ?_ ?_); · rfl)
    | ((with_reducible refine wp_condF ?_ ?_); · rfl))
namespace Mp.Q
theorem wp_disp {S : Store} {E : Xc → Store → Prop} {Q : W → Store → Prop} {k v : M W} {d yv : PyData} {key : Key} (hk : k (S ++ [some (.dk [])]) = .ok (.dat d) (S ++ [some (.dk [])])) (hv : v (S ++ [some (.dk [])]) = .ok (.dat yv) (S ++ [some (.dk [])])) (hd : keyOf d = some key)
    (q : Q (.obj S.length) (S ++ [some (.dk [(key, .dat yv)])])) : wp (dispM k v) S Q E := by
  refine wp_bnd (wp_alloc rfl ?_)
  refine wp_bnd (wp_of hk ?_)
  refine wp_bnd (wp_of hv ?_)
  simp only [hd]
  refine wp_bnd (wp_of (a := W.dat yv) (S' := S ++ [some (.dk [])]) rfl ?_)
  refine wp_of (a := .obj S.length) (S' := S ++ [some (.dk [(key, .dat yv)])]) ?_ q
  simp only [get_last, set_last]
/-- a set as a dict of truths -/
def kvT (l : List Nat) : List (Key × W) := l.map fun (x : Nat) => ((Sum.inl (x : Int) : Key), W.dat (.bool true))
theorem kvT_get (l : List Nat) (x : Nat) : (getK (kvT l) (.inl x)).isSome = decide (x ∈ l) := by
  unfold getK kvT
  rw [Option.isSome_map, List.find?_map, Option.isSome_map]
  cases e : l.find? ((fun kv : Key × W => decide (kv.1 = Sum.inl (x : Int))) ∘ fun (y : Nat) => ((Sum.inl (y : Int) : Key), W.dat (.bool true))) with
  | none =>
    have := List.find?_eq_none.mp e
    rw [decide_eq_false]
    · rfl
    · intro h
      exact this x h (by simp)
  | some y =>
    have h1 := List.find?_some e
    have h2 := List.mem_of_find?_eq_some e
    simp at h1
    have : y = x := by omega
    subst this
    rw [decide_eq_true h2]
    rfl
theorem set_same {S : Store} {k : Nat} {o : Option Ob} (h : S[k]? = some o) : S.set k o = S := by
  obtain ⟨h1, h2⟩ := List.getElem?_eq_some_iff.mp h
  rw [← h2]
  exact List.set_getElem_self h1
theorem notin_set {S : Store} {k : Nat} {l : List Nat} {x : Nat} (h : S[k]? = some (some (.dk (kvT l)))) : cmpOp .NotIn (.dat (nD x)) (.obj k) S = .ok (!decide (x ∈ l)) S := by
  have e : isIn (.dat (nD x)) (.obj k) S = .ok (decide (x ∈ l)) S := by
    have c : conv (.dk (kvT l)) (nD x) = .dk (kvT l) := by cases l <;> rfl
    have a : askD (.dk (kvT l)) (nD x) = some (getK (kvT l) (.inl x)) := rfl
    have d : datOf (.dat (nD x)) = some (nD x) := rfl
    unfold isIn
    simp only [live_obj h, isDict, d, c, a, kvT_get, set_same h]
  show bnd (isIn (.dat (nD x)) (.obj k)) (fun b => ret (!b)) S = _
  unfold bnd
  rw [e]
  rfl
theorem put_set {S : Store} {k : Nat} {l : List Nat} {x : Nat} (h : S[k]? = some (some (.dk (kvT l)))) (hx : x ∉ l) (hz : l.length ≤ 1000000) : setItem (.obj k) (.dat (nD x)) (.dat (.bool true)) S = .ok () (S.set k (some (.dk (kvT (l ++ [x]))))) := by
  have c : conv (.dk (kvT l)) (nD x) = .dk (kvT l) := by cases l <;> rfl
  have hn : getK (kvT l) (.inl x) = none := by
    have := kvT_get l x
    rw [decide_eq_false hx] at this
    cases e : getK (kvT l) (.inl x) with
    | none => rfl
    | some v => rw [e] at this; cases this
  have p : putD (.dk (kvT l)) (nD x) (.dat (.bool true)) = some (.dk (kvT (l ++ [x]))) := by
    show some (Ob.dk (setK (kvT l) (.inl x) (.dat (.bool true)))) = _
    rw [setK_new hn]
    unfold kvT
    rw [List.map_append]
    rfl
  have r : roomy (sizeD (.dk (kvT l))) = true := by
    show roomy (kvT l).length = true
    unfold kvT
    rw [List.length_map]
    exact decide_eq_true hz
  have d : datOf (.dat (nD x)) = some (nD x) := rfl
  unfold setItem
  simp only [live_obj h, d, r, if_true, c, p]
end Mp.Q
namespace K29
/-- the goals of each state, as data -/
abbrev stepsD (n : Nat) (z : Nat → Bool → Nat) : PyData := lst n fun i => .tuple [nD (z i false), nD (z i true)]
theorem met_ok (n N : Nat) (z : Nat → Bool → Nat) (S : Store) (hN : 0 < N) (hM : N ≤ 900) (hz : ∀ i b, i < N → z i b < N) :
    ∃ t, (bfs z 0 t).length ≤ t ∧ calls G ds (n + 1) "met" [.dat (stepsD N z), .dat (lst N nD), .dat (nD 0)] S = .ok (.dat (.list ((bfs z 0 t).map nD))) S := by
  have key : wp (calls G ds (n + 1) "met" [.dat (stepsD N z), .dat (lst N nD), .dat (nD 0)]) S (fun a S' => (∃ t, (bfs z 0 t).length ≤ t ∧ a = .dat (.list ((bfs z 0 t).map nD))) ∧ S' = S) noE := by
    have blt_ : ∀ t x, x ∈ bfs z 0 t → x < N := bfs_all (P := fun x => x < N) hN fun i b hi => hz i b hi
    refine c_met ?_
    unfold p_met
    repeat fail
    refine wp_disp (d := nD 0) (yv := .bool true) (key := .inl 0) ?_ rfl rfl ?_
    · refine eq_of_wp ?_
      repeat fail
      exact ⟨rfl, rfl⟩
    repeat fail
    refine ⟨Nat.le_of_ble_eq_true rfl, rfl, ?_⟩
    have hL : (S ++ [some (Ob.dk [(Sum.inl 0, W.dat (.bool true))])]).length = S.length + 1 := by simp
    rw [hL]
    repeat fail
    refine wp_while (fun k g S2 => ∃ (t : Nat) (x6 : Option W), k + t = N + 1 ∧ g = [some (.dat (stepsD N z)), some (.dat (lst N nD)), some (.dat (nD 0)), some (.obj S.length), some (.obj (S.length + 1)), some (.dat (nD t)), x6] ∧ S2 = S ++ [some (.dk (kvT (bfs z 0 t))), some (.lst (nW (bfs z 0 t)))]) ?_ _ (N + 1) _ _ (by simp [whileFuel]; omega) ⟨0, _, rfl, rfl, by simp [bfs, kvT]⟩
    rintro k g S2 ⟨t, x6, hk, rfl, rfl⟩
    have hll := nodup_len N _ (bfs_nodup z 0 t) (blt_ t)
    have hlx := blt_ t
    have hb : bfs z 0 (t + 1) = stepB z (bfs z 0 t) t := rfl
    repeat fail
    refine wp_blt (len_nobj (get_at 1)) ?_
    repeat fail
    refine ⟨fun h => ?_, fun h => ?_⟩
    · have htl : t < (bfs z 0 t).length := by have := of_decide_eq_true h; omega
      have hx : (bfs z 0 t)[t]? = some (bfs z 0 t)[t] := List.getElem?_eq_getElem htl
      generalize (bfs z 0 t)[t] = x at hx
      have hxN : x < N := hlx x (List.mem_of_getElem? hx)
      have hst : bfs z 0 (t + 1) = push (push (bfs z 0 t) (z x false)) (z x true) := by rw [hb]; unfold stepB; rw [hx]
      repeat fail
      refine wp_item (item_nobj (get_at 1) hx) ?_
      repeat fail
      refine wp_walkV walk_tup ?_
      generalize bfs z 0 t = l at hll hlx hx hst htl
      refine wp_for (fun i g S2 => ∃ (x6 : Option W), g = [some (.dat (stepsD N z)), some (.dat (lst N nD)), some (.dat (nD 0)), some (.obj S.length), some (.obj (S.length + 1)), some (.dat (nD t)), x6] ∧ S2 = S ++ [some (.dk (kvT (two l (z x false) (z x true) i))), some (.lst (nW (two l (z x false) (z x true) i)))]) ?_ ?_ _ 0 _ _ (by simp [walkFuel]) (by omega) ⟨_, rfl, rfl⟩
      · rintro i w g S2 hw ⟨x6, rfl, rfl⟩
        have hw' : ∃ b, w = .dat (nD (z x b)) ∧ two l (z x false) (z x true) (i + 1) = push (two l (z x false) (z x true) i) (z x b) ∧ (two l (z x false) (z x true) i).length ≤ N + 5 := by
          have pl : ∀ (l : List Nat) (y : Nat), (push l y).length ≤ l.length + 1 := fun l y => by unfold push; split <;> simp
          have := pl l (z x false)
          rcases i with _ | _ | i
          · exact ⟨false, (Option.some.inj hw).symm, rfl, by show l.length ≤ _; omega⟩
          · exact ⟨true, (Option.some.inj hw).symm, rfl, by show (push l (z x false)).length ≤ _; omega⟩
          · simp at hw
        obtain ⟨b, rfl, e2, hl1⟩ := hw'
        rw [e2]
        generalize two l (z x false) (z x true) i = l1 at hl1
        have zx := hz x b hxN
        repeat fail
        refine wp_cmp (notin_set get_at0) ?_
        repeat fail
        by_cases hm : z x b ∈ l1
        · refine wp_condF (by rw [decide_eq_true hm]; rfl) ?_
          repeat fail
          exact ⟨_, rfl, by unfold push; rw [if_pos hm]⟩
        · refine wp_condT (by rw [decide_eq_false hm]; rfl) ?_
          repeat fail
          refine wp_setItem (put_set get_at0 hm (by omega)) ?_
          rw [set_at0]
          repeat fail
          refine wp_recv (recv_append (get_at 1)) ?_
          repeat fail
          refine wp_method (append_obj (get_at 1) (by simp; omega)) ?_
          rw [set_at]
          repeat fail
          exact ⟨_, rfl, by unfold push; rw [if_neg hm]; simp [nW]⟩
      · rintro g S2 ⟨x6, rfl, rfl⟩
        repeat fail
        refine wp_aug (a := (t : Int)) rfl ?_
        repeat fail
        refine ⟨1, rfl, ?_⟩
        repeat fail
        exact ⟨N - t, by omega, t + 1, _, by omega, rfl, by rw [hst]; rfl⟩
    · have htl : ¬ t < (bfs z 0 t).length := by have := of_decide_eq_false h; omega
      repeat fail
      refine .inr ⟨by omega, nW (bfs z 0 t), (bfs z 0 t).map nD, get_at 1, allDat_n, ⟨t, by omega, rfl⟩, take_app⟩
  obtain ⟨a, S', h1, ⟨t, h2, rfl⟩, rfl⟩ := ex_of_wp key
  exact ⟨t, h2, h1⟩
end K29
end

section
set_option Elab.async false
set_option linter.all false
set_option maxRecDepth 100000
set_option maxHeartbeats 1000000
set_option autoImplicit false
/-! KL8: is_met_in_order, refined. -/
open PySem L2 Mp Mp.Q KM
local macro_rules
  | `(tactic| fail) => `(tactic| first
    | with_reducible refine wp_nxS ?_
    | with_reducible refine wp_rtS ?_
    | with_reducible refine wp_bkS ?_
    | with_reducible refine wp_ctS ?_
    | with_reducible refine wp_xcS ?_
    | with_reducible refine wp_nxF ?_
    | with_reducible refine wp_ctF ?_
    | with_reducible refine wp_bkF ?_
    | with_reducible refine wp_rtF ?_
    | with_reducible refine wp_xcF ?_
    | with_reducible refine wp_nxD ?_
    | with_reducible refine wp_rtD ?_
    | with_reducible refine wp_rtC ?_
    | with_reducible refine wp_rtO ?_
    | with_reducible refine wp_xcD ?_
    | with_reducible refine wp_ret ?_
    | with_reducible refine wp_seq ?_
    | with_reducible refine wp_bndE ?_
    | with_reducible refine wp_bnd ?_
    | ((with_reducible apply wp_getS); · rfl)
    | with_reducible refine wp_evs_cons ?_
    | with_reducible refine wp_evs_nil ?_
    | with_reducible refine wp_tup ?_
    | with_reducible refine wp_and1 ?_
    | with_reducible refine wp_and ?_
    | with_reducible refine wp_or1 ?_
    | with_reducible refine wp_or ?_
    | with_reducible refine wp_boolV1 ?_
    | with_reducible refine wp_boolA ?_
    | with_reducible refine wp_boolO ?_
    | with_reducible refine wp_opt ?_
    | with_reducible refine optQ_int ?_
    | with_reducible refine wp_listD ?_
    | with_reducible refine wp_listL ?_
    | refine ⟨[], rfl, Nat.le_of_ble_eq_true rfl, ?_⟩
    | refine ⟨[_], rfl, Nat.le_of_ble_eq_true rfl, ?_⟩
    | refine ⟨[_, _], rfl, Nat.le_of_ble_eq_true rfl, ?_⟩
    | refine ⟨[_, _, _], rfl, Nat.le_of_ble_eq_true rfl, ?_⟩
    | refine ⟨[_, _, _, _], rfl, Nat.le_of_ble_eq_true rfl, ?_⟩
    | refine ⟨[_, _, _, _, _], rfl, Nat.le_of_ble_eq_true rfl, ?_⟩
    | refine ⟨[_, _, _, _, _, _], rfl, Nat.le_of_ble_eq_true rfl, ?_⟩
    | refine ⟨[_, _, _, _, _, _, _], rfl, Nat.le_of_ble_eq_true rfl, ?_⟩
    | ((with_reducible apply wp_blt); · with_reducible exact len_lst)
    | ((with_reducible apply wp_walkV); · with_reducible exact walk_lst)
    | ((with_reducible apply wp_enum); · with_reducible exact enum_lst)
    | ((with_reducible apply wp_cmp); · with_reducible exact eq_int)
    | ((with_reducible apply wp_cmp); · with_reducible exact ne_int)
    | ((with_reducible apply wp_bin); · with_reducible exact bin_add)
    | ((with_reducible apply wp_bin); · with_reducible exact bin_sub)
    | ((with_reducible apply wp_bin); · with_reducible exact bin_mod (by decide))
    | ((with_reducible apply wp_bin); · with_reducible exact bin_fdiv (by decide) (by decide))
    | ((with_reducible apply wp_bin); · with_reducible exact bin_pow (by decide))
    | ((with_reducible apply wp_cmp); · rfl)
    | ((with_reducible apply wp_truth); · rfl)
    | ((with_reducible apply wp_asBool); · rfl)
    | ((with_reducible apply wp_isi); · rfl)
    | ((with_reducible apply wp_neg); · rfl)
    | ((with_reducible apply wp_asgTup); · rfl)
    | ((with_reducible apply wp_item); · with_reducible exact item_lst (by omega))
    | ((with_reducible apply wp_item); · rfl)
    | ((with_reducible refine wp_condT ?_ ?_); · rfl)
    | ((with_reducible refine wp_condF ?_ ?_); · rfl))
namespace K29
theorem is_met_ok (n N : Nat) (z : Nat → Bool → Nat) (S : Store) (hN : 0 < N) (hM : N ≤ 900) (hz : ∀ i b, i < N → z i b < N) :
    ∃ b, (b = true ↔ ∃ t, (bfs z 0 t).length ≤ t ∧ bfs z 0 t = List.range N) ∧ calls G ds (n + 2) "is_met_in_order" [.dat (stepsD N z)] S = .ok (.dat (.bool b)) S := by
  obtain ⟨t, h1, h2⟩ := met_ok n N z S hN hM hz
  have hr : PyData.list ((bfs z 0 t).map nD) = .list ((List.range N).map nD) ↔ bfs z 0 t = List.range N := by
    constructor
    · intro e
      injection e with e
      exact (List.map_inj_right (fun a b q => by injection q with q; exact Int.ofNat.inj q)).mp e
    · intro e; rw [e]
  refine ⟨decide (PyData.list ((bfs z 0 t).map nD) = .list ((List.range N).map nD)), ?_, ?_⟩
  · rw [decide_eq_true_iff, hr]
    constructor
    · exact fun e => ⟨t, h1, e⟩
    · rintro ⟨u, g1, g2⟩
      rw [bfs_eq h1 g1, g2]
  · refine eq_of_wp (c_is_met_in_order ?_)
    unfold p_is_met_in_order
    repeat fail
    refine wp_listRg (listRg_ok (n := N) (by omega)) ?_
    repeat fail
    refine wp_of h2 ?_
    repeat fail
    refine wp_listRg (listRg_ok (n := N) (by omega)) ?_
    repeat fail
    have pn : ∀ l : List Nat, Mp.Q.plain 1 (.list (l.map nD)) = true := fun l => plainAll_n l
    refine wp_cmp (eq_plain (n := 1) (pn _) (pn _) (by decide)) ?_
    repeat fail
    exact ⟨rfl, List.take_length⟩
theorem len_dict {S : Store} {k : Nat} {o : Ob} {live : Bool} (h : S[k]? = some (some o)) (hd : isDict o = true) : blt live "len" [.obj k] S = .ok (.dat (nD (sizeD o))) S := by
  have e : seqOf S (.obj k) = none := by
    unfold seqOf
    simp only [h]
    cases o with
    | lst ws => cases hd
    | dk kvs => rfl
    | dt kvs => rfl
  unfold blt
  rw [if_pos rfl]
  simp only [e, live_obj h]
section
variable {κ : Type} [DecidableEq κ] {mk : List (κ × W) → Ob} {φ : Nat → PyData} {key : Nat → κ} {S0 : Store} {m : Nat} {E : Xc → Store → Prop}
theorem ref_loop3 (D : Dk mk φ key) (hm : 0 < m) (hM : m ≤ 1000) {a0 a1 a3 a4 a5 a6 a7 a8 a9 : Option W} {Q : Fl → Store → Prop}
    (q : ∀ x, wp (ret (.nx [a0, a1, some (.obj S0.length), x, a4, a5, a6, a7, a8, a9])) (S0 ++ [some (mk (kv key (fun j => nD (cnt key j)) m))]) Q E) :
    wp (forW (fun w g => ret (List.set g 3 (some w))) (fun g => seqM (bndE g (bnd (getS g 2) fun x => bnd (recv "setdefault" x) fun _ => bnd (evsM [getS g 3, bnd (evsM [getS g 2]) fun ws => blt false "len" ws]) fun ws => method x "setdefault" ws) fun _ => ret (.nx g)) fun g => ret (.nx g)) (.list ((List.range m).map fun i => .dat (φ i))) walkFuel 0 [a0, a1, some (.obj S0.length), a3, a4, a5, a6, a7, a8, a9]) (S0 ++ [some (.dk [])]) Q E := by
  refine wp_for (fun i g S' => ∃ x o, g = [a0, a1, some (.obj S0.length), x, a4, a5, a6, a7, a8, a9] ∧ S' = S0 ++ [some o] ∧ DkIs mk o (kv key (fun j => nD (cnt key j)) i)) ?_ ?_ _ 0 _ _ (by simp [walkFuel]; omega) (by omega) ⟨_, _, rfl, rfl, .inr ⟨rfl, rfl⟩⟩
  · rintro i w g S' hw ⟨x, o, rfl, rfl, ho⟩
    have hi : i < m := by have := (List.getElem?_eq_some_iff.mp hw).1; simpa using this
    rw [List.getElem?_map, List.getElem?_range hi] at hw
    cases hw
    repeat fail
    refine wp_recv (D.recv get_last ho) ?_
    repeat fail
    refine wp_blt (len_dict get_last (D.isdI ho)) ?_
    rw [D.sizeI ho, kv_len]
    repeat fail
    obtain ⟨r, hr⟩ := D.sd_step (fun j => nD (cnt key j)) (get_last (S := S0) (o := some o)) ho (by omega)
    refine wp_method hr ?_
    repeat fail
    exact ⟨_, _, rfl, by rw [set_last], .inl rfl⟩
  · rintro g S' ⟨x, o, rfl, rfl, ho⟩
    rw [List.length_map, List.length_range] at ho
    rcases ho with rfl | ⟨rfl, h⟩
    · exact q x
    · have h1 := kv_len key (fun j => nD (cnt key j)) m
      rw [h] at h1
      have := cnt_pos key hm
      simp at h1
      omega
theorem ref_loop7 (D : Dk mk φ key) (hm : 0 < m) (hM : m ≤ 1000) {a0 a1 a3 a4 a5 a6 a7 a8 a9 : Option W} {Q : Fl → Store → Prop}
    (q : ∀ x, wp (ret (.nx [a0, a1, some (.obj S0.length), a3, a4, a5, a6, x, a8, a9])) (S0 ++ [some (mk (kv key (fun j => nD (cnt key j)) m))]) Q E) :
    wp (forW (fun w g => ret (List.set g 7 (some w))) (fun g => seqM (bndE g (bnd (getS g 2) fun x => bnd (recv "setdefault" x) fun _ => bnd (evsM [getS g 7, bnd (evsM [getS g 2]) fun ws => blt false "len" ws]) fun ws => method x "setdefault" ws) fun _ => ret (.nx g)) fun g => ret (.nx g)) (.list ((List.range m).map fun i => .dat (φ i))) walkFuel 0 [a0, a1, some (.obj S0.length), a3, a4, a5, a6, a7, a8, a9]) (S0 ++ [some (.dk [])]) Q E := by
  refine wp_for (fun i g S' => ∃ x o, g = [a0, a1, some (.obj S0.length), a3, a4, a5, a6, x, a8, a9] ∧ S' = S0 ++ [some o] ∧ DkIs mk o (kv key (fun j => nD (cnt key j)) i)) ?_ ?_ _ 0 _ _ (by simp [walkFuel]; omega) (by omega) ⟨_, _, rfl, rfl, .inr ⟨rfl, rfl⟩⟩
  · rintro i w g S' hw ⟨x, o, rfl, rfl, ho⟩
    have hi : i < m := by have := (List.getElem?_eq_some_iff.mp hw).1; simpa using this
    rw [List.getElem?_map, List.getElem?_range hi] at hw
    cases hw
    repeat fail
    refine wp_recv (D.recv get_last ho) ?_
    repeat fail
    refine wp_blt (len_dict get_last (D.isdI ho)) ?_
    rw [D.sizeI ho, kv_len]
    repeat fail
    obtain ⟨r, hr⟩ := D.sd_step (fun j => nD (cnt key j)) (get_last (S := S0) (o := some o)) ho (by omega)
    refine wp_method hr ?_
    repeat fail
    exact ⟨_, _, rfl, by rw [set_last], .inl rfl⟩
  · rintro g S' ⟨x, o, rfl, rfl, ho⟩
    rw [List.length_map, List.length_range] at ho
    rcases ho with rfl | ⟨rfl, h⟩
    · exact q x
    · have h1 := kv_len key (fun j => nD (cnt key j)) m
      rw [h] at h1
      have := cnt_pos key hm
      simp at h1
      omega
theorem ref_item (D : Dk mk φ key) (i : Nat) (hi : i < m) {S : Store} {k : Nat} (hS : S[k]? = some (some (mk (kv key (fun j => nD (cnt key j)) m)))) : itemOf (.obj k) (.dat (φ i)) S = .ok (.dat (nD (num key i))) S := by
  refine D.item hS ?_
  have h := kv_get key (fun j => nD (cnt key j)) i m
  have := (fst_spec key i).1
  rw [if_pos (by omega)] at h
  exact h
end
theorem refined_ok (n N : Nat) (z : Nat → Bool → Nat) (k : Nat → Kd) (S : Store) (hN : 0 < N) (hM : N ≤ 900) (hz : ∀ i b, i < N → z i b < N) :
    ∃ C, Coarse N k z C ∧ calls G ds (n + 1) "refined" [.dat (stepsD N z), .dat (lst N fun i => kdD (k i))] S = .ok (.dat (lst N fun i => nD (C i))) S := by
  have key : wp (calls G ds (n + 1) "refined" [.dat (stepsD N z), .dat (lst N fun i => kdD (k i))]) S (fun a S' => (∃ C, Coarse N k z C ∧ a = .dat (lst N fun i => nD (C i))) ∧ S' = S) noE := by
    refine c_refined ?_
    unfold p_refined
    repeat fail
    refine wp_alloc rfl ?_
    repeat fail
    have D0 : Dk (κ := Key) Ob.dk (fun i => kdD (k i)) (fun i => .inr (kdS (k i))) := dk_str
    refine ref_loop3 D0 hN (by omega) ?_
    intro x3
    repeat fail
    refine wp_compA (fun i => .dat (nD (num (fun i => (Sum.inr (kdS (k i)) : Key)) i))) (by omega) (fun i hi => ?_) ?_
    · repeat fail
      exact wp_item (ref_item D0 i hi get_last) ⟨rfl, rfl⟩
    refine wp_newList (new_lst fun i _ => rfl) ?_
    repeat fail
    refine wp_while (fun q g S2 => ∃ (C : Nat → Nat) (m0 a : Nat) (o : Ob) (x3 x6 x7 x8 x9 : Option W), q + m0 = N + 1 ∧ RefI N z k C m0 ∧ g = [some (.dat (stepsD N z)), some (.dat (lst N fun i => kdD (k i))), some (.obj a), x3, some (.dat (lst N fun i => nD (C i))), some (.dat (nD m0)), x6, x7, x8, x9] ∧ (∃ T, S2 = S ++ T) ∧ S2[a]? = some (some o) ∧ isDict o = true ∧ sizeD o = cnt C N) ?_ _ (N + 1) _ _ (by simp [whileFuel]; omega)
      ⟨_, 0, _, _, _, _, _, _, _, rfl, ?_, rfl, ⟨_, rfl⟩, get_last, D0.isd _, ?_⟩
    · rintro q g S2 ⟨C, m0, a, o, x3, x6, x7, x8, x9, hq, I, rfl, ⟨T, rfl⟩, ho, hd, hs⟩
      repeat fail
      refine wp_blt (len_dict ho hd) ?_
      rw [hs]
      repeat fail
      refine ⟨fun h => ?_, fun h => ?_⟩
      · have hne : cnt C N ≠ m0 := by
          intro e
          rw [e] at h
          simp at h
        have hle := refI_le I
        have hcN := cnt_le C N
        repeat fail
        refine wp_blt (len_dict ho hd) ?_
        rw [hs]
        repeat fail
        refine wp_alloc rfl ?_
        repeat fail
        refine wp_compA (fun i => .dat (.tuple [nD (C i), nD (C (z i false)), nD (C (z i true))])) (by omega) (fun i hi => ?_) ?_
        · have z0 := hz i false hi
          have z1 := hz i true hi
          repeat fail
          exact ⟨rfl, rfl⟩
        refine wp_newList (new_lst fun i _ => rfl) ?_
        repeat fail
        have D1 : Dk Ob.dt (fun i => .tuple [nD (C i), nD (C (z i false)), nD (C (z i true))]) (fun i => ([.inl (C i), .inl (C (z i false)), .inl (C (z i true))] : List Key)) := dk_tup
        refine ref_loop7 D1 hN (by omega) ?_
        intro x7
        repeat fail
        refine wp_compA (fun i => .dat (nD (num (fun i => ([.inl (C i), .inl (C (z i false)), .inl (C (z i true))] : List Key)) i))) (by omega) (fun i hi => ?_) ?_
        · repeat fail
          exact wp_item (ref_item D1 i hi get_last) ⟨rfl, rfl⟩
        refine wp_newList (new_lst fun i _ => rfl) ?_
        repeat fail
        have kk : ∀ i j, num (fun i => ([.inl (C i), .inl (C (z i false)), .inl (C (z i true))] : List Key)) i = num (fun i => ([.inl (C i), .inl (C (z i false)), .inl (C (z i true))] : List Key)) j ↔ C i = C j ∧ C (z i false) = C (z j false) ∧ C (z i true) = C (z j true) := by
          intro i j
          rw [num_eq]
          simp
          omega
        refine ⟨N + 1 - cnt C N, by omega, num (fun i => ([.inl (C i), .inl (C (z i false)), .inl (C (z i true))] : List Key)), cnt C N, _, _, _, _, _, _, _, by omega, ⟨fun i j hi hj e => I.mark i j hi hj ((kk i j).mp e).1, fun R hR i j r => ?_, .inr ⟨C, rfl, fun i j hi hj e => ?_⟩⟩, rfl, ⟨T ++ [_], by rw [List.append_assoc]⟩, get_last, D1.isd _, ?_⟩
        · have h := hR i j r
          exact (kk i j).mpr ⟨I.max R hR i j r, I.max R hR _ _ (h.2.2.2 false), I.max R hR _ _ (h.2.2.2 true)⟩
        · have h := (kk i j).mp e
          refine ⟨h.1, fun b => ?_⟩
          cases b
          · exact h.2.1
          · exact h.2.2
        · rw [D1.size, kv_len]
          exact cnt_num _ _
      · have he : cnt C N = m0 := by
          have := of_decide_eq_true ((Bool.not_eq_false' _).mp h)
          omega
        repeat fail
        exact ⟨⟨C, refI_end hN hz I he, rfl⟩, take_app⟩
    · refine ⟨fun i j _ _ e => ?_, fun R hR i j r => ?_, .inl rfl⟩
      · have := num_eq.mp e
        injection this with this
        exact kdS_inj this
      · refine num_eq.mpr ?_
        rw [(hR i j r).2.2.1]
    · rw [D0.size, kv_len]
      exact cnt_num _ _
  obtain ⟨a, S', h1, ⟨C, h2, rfl⟩, rfl⟩ := ex_of_wp key
  exact ⟨C, h2, h1⟩
end K29
end

section
set_option Elab.async false
set_option linter.all false
set_option maxRecDepth 100000
set_option maxHeartbeats 1000000
set_option autoImplicit false
/-! KL9: lively. -/
open PySem L2 Mp Mp.Q KM
local macro_rules
  | `(tactic| fail) => `(tactic| first
    | with_reducible refine wp_nxS ?_
    | with_reducible refine wp_rtS ?_
    | with_reducible refine wp_bkS ?_
    | with_reducible refine wp_ctS ?_
    | with_reducible refine wp_xcS ?_
    | with_reducible refine wp_nxF ?_
    | with_reducible refine wp_ctF ?_
    | with_reducible refine wp_bkF ?_
    | with_reducible refine wp_rtF ?_
    | with_reducible refine wp_xcF ?_
    | with_reducible refine wp_nxD ?_
    | with_reducible refine wp_rtD ?_
    | with_reducible refine wp_rtC ?_
    | with_reducible refine wp_rtO ?_
    | with_reducible refine wp_xcD ?_
    | with_reducible refine wp_ret ?_
    | with_reducible refine wp_seq ?_
    | with_reducible refine wp_bndE ?_
    | with_reducible refine wp_bnd ?_
    | ((with_reducible apply wp_getS); · rfl)
    | with_reducible refine wp_evs_cons ?_
    | with_reducible refine wp_evs_nil ?_
    | with_reducible refine wp_tup ?_
    | with_reducible refine wp_and1 ?_
    | with_reducible refine wp_and ?_
    | with_reducible refine wp_or1 ?_
    | with_reducible refine wp_or ?_
    | with_reducible refine wp_boolV1 ?_
    | with_reducible refine wp_boolA ?_
    | with_reducible refine wp_boolO ?_
    | with_reducible refine wp_opt ?_
    | with_reducible refine optQ_int ?_
    | with_reducible refine wp_listD ?_
    | with_reducible refine wp_listL ?_
    | refine ⟨[], rfl, Nat.le_of_ble_eq_true rfl, ?_⟩
    | refine ⟨[_], rfl, Nat.le_of_ble_eq_true rfl, ?_⟩
    | refine ⟨[_, _], rfl, Nat.le_of_ble_eq_true rfl, ?_⟩
    | refine ⟨[_, _, _], rfl, Nat.le_of_ble_eq_true rfl, ?_⟩
    | refine ⟨[_, _, _, _], rfl, Nat.le_of_ble_eq_true rfl, ?_⟩
    | refine ⟨[_, _, _, _, _], rfl, Nat.le_of_ble_eq_true rfl, ?_⟩
    | refine ⟨[_, _, _, _, _, _], rfl, Nat.le_of_ble_eq_true rfl, ?_⟩
    | refine ⟨[_, _, _, _, _, _, _], rfl, Nat.le_of_ble_eq_true rfl, ?_⟩
    | ((with_reducible apply wp_blt); · with_reducible exact len_lst)
    | ((with_reducible apply wp_walkV); · with_reducible exact walk_lst)
    | ((with_reducible apply wp_enum); · with_reducible exact enum_lst)
    | ((with_reducible apply wp_cmp); · with_reducible exact eq_int)
    | ((with_reducible apply wp_cmp); · with_reducible exact ne_int)
    | ((with_reducible apply wp_bin); · with_reducible exact bin_add)
    | ((with_reducible apply wp_bin); · with_reducible exact bin_sub)
    | ((with_reducible apply wp_bin); · with_reducible exact bin_mod (by decide))
    | ((with_reducible apply wp_bin); · with_reducible exact bin_fdiv (by decide) (by decide))
    | ((with_reducible apply wp_bin); · with_reducible exact bin_pow (by decide))
    | ((with_reducible apply wp_cmp); · rfl)
    | ((with_reducible apply wp_truth); · rfl)
    | ((with_reducible apply wp_asBool); · rfl)
    | ((with_reducible apply wp_isi); · rfl)
    | ((with_reducible apply wp_neg); · rfl)
    | ((with_reducible apply wp_asgTup); · rfl)
    | ((with_reducible apply wp_item); · with_reducible exact item_lst (by omega))
    | ((with_reducible apply wp_item); · rfl)
    | ((with_reducible refine wp_condT ?_ ?_); · rfl)
    | ((with_reducible refine wp_condF ?_ ?_); · rfl))
namespace Mp.Q
theorem map_set {α : Type} {n j : Nat} {g : Nat → α} {v : α} : ((List.range n).map g).set j v = (List.range n).map fun i => if i = j then v else g i := by
  refine List.ext_getElem? fun i => ?_
  rw [List.getElem?_set]
  by_cases hi : i < n
  · rw [List.getElem?_map, List.getElem?_map, List.getElem?_range hi, List.length_map, List.length_range]
    by_cases e : j = i
    · subst e
      simp [hi]
    · rw [if_neg e]
      simp [show ¬ i = j from fun q => e q.symm]
  · rw [List.getElem?_eq_none (by simp; omega), List.getElem?_eq_none (by simp; omega)]
    split
    · rw [List.length_map, List.length_range, if_neg (by omega)]
    · rfl
/-- lists for so many states, the list of them, and more -/
def liv (N : Nat) (B : Nat → List Nat) (s : Nat) (X : Store) : Store := ((List.range N).map fun j => some (Ob.lst (nW (B j)))) ++ (some (.lst ((List.range N).map fun j => W.obj (s + j))) :: X)
section
variable {S X : Store} {N s i j : Nat} {B : Nat → List Nat}
theorem liv_get (hj : j < N) : (S ++ liv N B s X)[S.length + j]? = some (some (.lst (nW (B j)))) := by
  rw [get_at, liv, List.getElem?_append_left (by simpa using hj), List.getElem?_map, List.getElem?_range hj]
  rfl
theorem lst_getW {f : Nat → W} (hj : j < N) : ((List.range N).map f)[j]? = some (f j) := by
  rw [List.getElem?_map, List.getElem?_range hj]
  rfl
theorem liv_out : (S ++ liv N B s X)[S.length + N]? = some (some (.lst ((List.range N).map fun j => W.obj (s + j)))) := by
  rw [get_at, liv, List.getElem?_append_right (by simp)]
  simp
theorem liv_x : (S ++ liv N B s X)[S.length + (N + 1 + i)]? = X[i]? := by
  rw [get_at, liv, List.getElem?_append_right (by simp; omega)]
  simp [show N + 1 + i - N = i + 1 by omega]
theorem liv_set {l : List Nat} (hj : j < N) : (S ++ liv N B s X).set (S.length + j) (some (.lst (nW l))) = S ++ liv N (fun x => if x = j then l else B x) s X := by
  rw [set_at, liv, List.set_append_left _ _ (by simpa using hj), map_set]
  unfold liv
  congr 2
  refine List.map_congr_left fun x _ => ?_
  by_cases e : x = j
  · simp [e]
  · simp [e]
theorem liv_setx {o : Option Ob} : (S ++ liv N B s X).set (S.length + (N + 1 + i)) o = S ++ liv N B s (X.set i o) := by
  rw [set_at, liv, List.set_append_right _ _ (by simp; omega)]
  simp [liv, show N + 1 + i - N = i + 1 by omega]
theorem liv_len : (S ++ liv N B s X).length = S.length + (N + 1 + X.length) := by
  simp [liv]
  omega
theorem liv_app {o : Option Ob} : S ++ liv N B s X ++ [o] = S ++ liv N B s (X ++ [o]) := by
  simp [liv]
theorem truth_nobj {k : Nat} {l : List Nat} (h : S[k]? = some (some (.lst (nW l)))) : truth (.obj k) S = .ok (!l.isEmpty) S := by
  have e : truth (.obj k) S = (match seqOf S (.obj k) with
    | some (_, ws) => Res.ok (!ws.isEmpty) S
    | none => .stuck) := rfl
  rw [e, seq_obj h]
  cases l <;> rfl
end
end Mp.Q
namespace K29
theorem lively_ok (n N : Nat) (z : Nat → Bool → Nat) (k : Nat → Kd) (S : Store) (hN : 0 < N) (hM : N ≤ 900) (hz : ∀ i b, i < N → z i b < N) :
    ∃ f : Nat → Bool, (∀ i, i < N → (f i = true ↔ Live k z i)) ∧ calls G ds (n + 1) "lively" [.dat (stepsD N z), .dat (lst N fun i => kdD (k i))] S = .ok (.dat (lst N fun i => .bool (f i))) S := by
  have key : wp (calls G ds (n + 1) "lively" [.dat (stepsD N z), .dat (lst N fun i => kdD (k i))]) S (fun a S' => (∃ f : Nat → Bool, (∀ i, i < N → (f i = true ↔ Live k z i)) ∧ a = .dat (lst N fun i => .bool (f i))) ∧ S' = S) noE := by
    refine c_lively ?_
    unfold p_lively
    repeat fail
    refine wp_comp (fun i acc S' => acc = ((List.range i).map fun j => W.obj (S.length + j)) ∧ S' = S ++ (List.range i).map fun _ => some (Ob.lst [])) ?_ ?_ walkFuel 0 [] S (by simp [walkFuel]; omega) (by omega) ⟨rfl, by simp⟩
    · rintro i w acc S' hw ⟨rfl, rfl⟩
      repeat fail
      refine ⟨fun _ => ?_, fun h => by cases h⟩
      repeat fail
      refine ⟨Nat.le_of_ble_eq_true rfl, rfl, ?_, ?_⟩
      · rw [List.range_succ, List.map_append]
        simp
      · rw [List.range_succ, List.map_append]
        simp
    · rintro acc S' ⟨rfl, rfl⟩
      rw [List.length_map, List.length_range]
      refine wp_newList (newList_live ?_) ?_
      · show ((List.range N).map fun j => W.obj (S.length + j)).all (W.below _) = true
        rw [List.all_map]
        refine List.all_eq_true.mpr fun x hx => ?_
        have : x < N := by simpa using hx
        show decide (S.length + x < _) = true
        simp
        omega
      have e0 : S ++ ((List.range N).map fun _ => some (Ob.lst [])) ++ [some (.lst ((List.range N).map fun j => W.obj (S.length + j)))] = S ++ liv N (fun _ => []) S.length [] := by
        simp [liv]
      have l0 : (S ++ (List.range N).map fun _ => some (Ob.lst [])).length = S.length + N := by simp
      rw [e0, l0]
      repeat fail
      refine wp_for (fun t g S2 => ∃ (B : Nat → List Nat) (x3 x4 x7 : Option W), g = [some (.dat (stepsD N z)), some (.dat (lst N fun i => kdD (k i))), some (.obj (S.length + N)), x3, x4, none, none, x7, none] ∧ S2 = S ++ liv N B S.length [] ∧ (∀ i j, i ∈ B j ↔ i < t ∧ ∃ b, z i b = j) ∧ ∀ j, (B j).length ≤ 2 * t) ?_ ?_ _ 0 _ _ (by simp [walkFuel]; omega) (by omega) ⟨_, _, _, _, rfl, rfl, by simp, by simp⟩
      · rintro t w g S2 hw ⟨B, x3, x4, x7, rfl, rfl, hB, hBl⟩
        have ht : t < N := by have := (List.getElem?_eq_some_iff.mp hw).1; simpa using this
        rw [List.getElem?_map, List.getElem?_range ht] at hw
        cases hw
        repeat fail
        refine wp_walkV walk_tup ?_
        refine wp_for (fun i g S2 => ∃ (B' : Nat → List Nat) (x7 : Option W), g = [some (.dat (stepsD N z)), some (.dat (lst N fun i => kdD (k i))), some (.obj (S.length + N)), some (.dat (nD t)), some (.dat (.tuple [nD (z t false), nD (z t true)])), none, none, x7, none] ∧ S2 = S ++ liv N B' S.length [] ∧ (∀ x j, x ∈ B' j ↔ x ∈ B j ∨ x = t ∧ ∃ c, (c = false ∧ 0 < i ∨ c = true ∧ 1 < i) ∧ z t c = j) ∧ ∀ j, (B' j).length ≤ 2 * t + i) ?_ ?_ _ 0 _ _ (by simp [walkFuel]) (by omega) ⟨B, _, rfl, rfl, by simp, by simpa using hBl⟩
        · rintro i w g S2 hw ⟨B', x7, rfl, rfl, hB', hBl'⟩
          have hw' : ∃ b, w = .dat (nD (z t b)) ∧ (i = 0 ∧ b = false ∨ i = 1 ∧ b = true) := by
            rcases i with _ | _ | i
            · exact ⟨false, (Option.some.inj hw).symm, .inl ⟨rfl, rfl⟩⟩
            · exact ⟨true, (Option.some.inj hw).symm, .inr ⟨rfl, rfl⟩⟩
            · simp at hw
          obtain ⟨b, rfl, hib⟩ := hw'
          have zb := hz t b ht
          repeat fail
          refine wp_item (item_objN liv_out (lst_getW zb)) ?_
          repeat fail
          refine wp_recv (recv_append (liv_get zb)) ?_
          repeat fail
          have hlen := hBl' (z t b)
          refine wp_method (append_obj (liv_get zb) (by simp; omega)) ?_
          have en : nW (B' (z t b)) ++ [W.dat (nD t)] = nW (B' (z t b) ++ [t]) := by simp [nW]
          rw [en, liv_set zb]
          repeat fail
          have hD : ∀ c : Bool, (c = false ∧ 0 < i + 1 ∨ c = true ∧ 1 < i + 1) ↔ (c = false ∧ 0 < i ∨ c = true ∧ 1 < i) ∨ c = b := by
            intro c
            rcases hib with ⟨rfl, rfl⟩ | ⟨rfl, rfl⟩ <;> cases c <;> simp
          refine ⟨_, _, rfl, rfl, fun x j => ?_, fun j => ?_⟩
          · have h1 : x ∈ (if j = z t b then B' (z t b) ++ [t] else B' j) ↔ x ∈ B' j ∨ x = t ∧ j = z t b := by
              by_cases e : j = z t b
              · subst e
                simp
              · simp [e]
            rw [h1, hB' x j]
            constructor
            · rintro ((h | ⟨rfl, c, hc, h⟩) | ⟨rfl, rfl⟩)
              · exact .inl h
              · exact .inr ⟨rfl, c, (hD c).mpr (.inl hc), h⟩
              · exact .inr ⟨rfl, b, (hD b).mpr (.inr rfl), rfl⟩
            · rintro (h | ⟨rfl, c, hc, h⟩)
              · exact .inl (.inl h)
              · rcases (hD c).mp hc with hc | rfl
                · exact .inl (.inr ⟨rfl, c, hc, h⟩)
                · exact .inr ⟨rfl, h.symm⟩
          · have := hBl' j
            split
            · rename_i e
              subst e
              simp
              omega
            · omega
        · rintro g S2 ⟨B', x7, rfl, rfl, hB', hBl'⟩
          repeat fail
          refine ⟨B', _, _, _, rfl, rfl, fun i j => ?_, fun j => by have := hBl' j; simp at this; omega⟩
          rw [hB' i j, hB i j]
          constructor
          · rintro (⟨h1, h2⟩ | ⟨rfl, c, _, h⟩)
            · exact ⟨by omega, h2⟩
            · exact ⟨by omega, c, h⟩
          · rintro ⟨h1, c, h⟩
            by_cases e : i = t
            · subst e
              refine .inr ⟨rfl, c, ?_, h⟩
              cases c <;> simp
            · exact .inl ⟨by omega, c, h⟩
      · rintro g S2 ⟨B, x3, x4, x7, rfl, rfl, hB, hBl⟩
        rw [List.length_map, List.length_range] at hB hBl
        repeat fail
        refine wp_compA (fun i => .dat (.bool (decide (k i = .wh)))) (by omega) (fun i hi => ?_) ?_
        · repeat fail
          exact wp_cmp eq_wh (wp_ret ⟨rfl, rfl⟩)
        refine wp_newList (newList_live ?_) ?_
        · show ((List.range N).map fun i => W.dat (.bool (decide (k i = .wh)))).all (W.below _) = true
          rw [List.all_map]
          exact List.all_eq_true.mpr fun x hx => rfl
        rw [liv_app, liv_len]
        repeat fail
        refine wp_comp (fun i acc S' => acc = nW ((List.range i).filter fun i => decide (k i = .wh)) ∧ S' = S ++ liv N B S.length [some (.lst ((List.range N).map fun i => W.dat (.bool (decide (k i = .wh)))))]) ?_ ?_ walkFuel 0 [] _ (by simp [walkFuel]; omega) (by omega) ⟨rfl, rfl⟩
        · rintro i w acc S' hw ⟨rfl, rfl⟩
          have hi : i < N := by have := (List.getElem?_eq_some_iff.mp hw).1; simpa using this
          rw [List.getElem?_map, List.getElem?_range hi] at hw
          cases hw
          repeat fail
          refine wp_cmp eq_wh ?_
          repeat fail
          have e : ∀ b, decide (k i = .wh) = b → nW ((List.range (i + 1)).filter fun i => decide (k i = .wh)) = nW ((List.range i).filter fun i => decide (k i = .wh)) ++ (if b = true then [W.dat (nD i)] else []) := by
            rintro b rfl
            rw [List.range_succ, List.filter_append]
            simp only [nW, List.map_append]
            by_cases h : k i = .wh <;> simp [h]
          refine ⟨fun h => ?_, fun h => ?_⟩
          · repeat fail
            exact ⟨by rw [e _ h]; rfl, rfl⟩
          · exact ⟨by rw [e _ h]; simp, rfl⟩
        · rintro acc S' ⟨rfl, rfl⟩
          rw [List.length_map, List.length_range]
          refine wp_newList (newList_live ?_) ?_
          · show (nW _).all (W.below _) = true
            rw [List.all_map]
            exact List.all_eq_true.mpr fun x hx => rfl
          rw [liv_app, liv_len]
          repeat fail
          refine wp_while (fun q g S2 => ∃ (f : Nat → Bool) (w : List Nat) (x3 x7 : Option W), 2 * falses N f + w.length = q ∧ q ≤ 3 * N ∧ LivI N z k f w ∧ g = [some (.dat (stepsD N z)), some (.dat (lst N fun i => kdD (k i))), some (.obj (S.length + N)), x3, x4, some (.obj (S.length + (N + 1 + 0))), some (.obj (S.length + (N + 1 + 1))), x7, none] ∧ S2 = S ++ liv N B S.length [some (.lst ((List.range N).map fun i => W.dat (.bool (f i)))), some (.lst (nW w))]) ?_ _ (2 * falses N (fun i => decide (k i = .wh)) + ((List.range N).filter fun i => decide (k i = .wh)).length) _ _ ?_ ⟨_, _, _, _, rfl, ?_, livI_first N z k hz, rfl, rfl⟩
          · rintro q g S2 ⟨f, w, x3, x7, hq, hqN, I, rfl, rfl⟩
            have hgw : ∀ (f : Nat → Bool) (w : List Nat), (S ++ liv N B S.length [some (.lst ((List.range N).map fun i => W.dat (.bool (f i)))), some (.lst (nW w))])[S.length + (N + 1 + 1)]? = some (some (.lst (nW w))) := fun f w => liv_x
            have hgf : ∀ (f : Nat → Bool) (w : List Nat), (S ++ liv N B S.length [some (.lst ((List.range N).map fun i => W.dat (.bool (f i)))), some (.lst (nW w))])[S.length + (N + 1 + 0)]? = some (some (.lst ((List.range N).map fun i => W.dat (.bool (f i))))) := fun f w => liv_x
            repeat fail
            refine wp_truth (truth_nobj (hgw f w)) ?_
            refine ⟨fun h => ?_, fun h => ?_⟩
            · obtain ⟨w', x, rfl⟩ : ∃ w' x, w = w' ++ [x] := by
                rcases List.eq_nil_or_concat w with rfl | ⟨l, a, rfl⟩
                · cases h
                · exact ⟨l, a, by simp⟩
              have hx := I.wait x (by simp)
              have en : nW (w' ++ [x]) = nW w' ++ [W.dat (nD x)] := by simp [nW]
              repeat fail
              refine wp_recv (recv_pop (hgw f _)) ?_
              repeat fail
              refine wp_method (pop_obj (ws := nW w') (w := W.dat (nD x)) (by rw [hgw, en])) ?_
              rw [liv_setx]
              repeat fail
              refine wp_item (item_objN liv_out (lst_getW hx.1)) ?_
              repeat fail
              refine wp_walkV (walk_obj (liv_get hx.1)) ?_
              have hBx := hBl x
              refine wp_forO (ws := nW (B x)) (fun t g S2 => ∃ (f : Nat → Bool) (w : List Nat) (x3 : Option W), LivJ N z k x ((B x).take t) f w ∧ 2 * falses N f + w.length < q ∧ g = [some (.dat (stepsD N z)), some (.dat (lst N fun i => kdD (k i))), some (.obj (S.length + N)), x3, x4, some (.obj (S.length + (N + 1 + 0))), some (.obj (S.length + (N + 1 + 1))), some (.dat (nD x)), none] ∧ S2 = S ++ liv N B S.length [some (.lst ((List.range N).map fun i => W.dat (.bool (f i)))), some (.lst (nW w))]) ?_ ?_ ?_ _ 0 _ _ (by simp [walkFuel]; omega) (by omega) ⟨f, w', _, by simpa using livJ_first I, by simp at hq; omega, rfl, rfl⟩
              · rintro t g S2 ⟨f, w, x3, J, hm, rfl, rfl⟩
                exact liv_get hx.1
              · rintro t wv g S2 hw ⟨f, w, x3, J, hm, rfl, rfl⟩
                have hgw := hgw f w
                have hgf := hgf f w
                rw [List.getElem?_map] at hw
                cases e : (B x)[t]? with
                | none => rw [e] at hw; cases hw
                | some i =>
                  rw [e] at hw
                  cases hw
                  have et : (B x).take (t + 1) = (B x).take t ++ [i] := by rw [List.take_add_one, e]; rfl
                  obtain ⟨hi, b, hb⟩ := (hB i x).mp (List.mem_of_getElem? e)
                  rw [et]
                  repeat fail
                  refine wp_item (item_objN hgf (lst_getW hi)) ?_
                  repeat fail
                  refine wp_cond (fun hf => ?_) fun hf => ?_
                  · have hf : f i = false := by simpa using hf
                    repeat fail
                    refine wp_cmp eq_op ?_
                    repeat fail
                    refine wp_cond (fun ho => ?_) fun ho => ?_
                    · have ho := of_decide_eq_true ho
                      have hlt := falses_set hi hf
                      repeat fail
                      refine wp_setItem (set_obj hgf (by omega) (by simp; omega)) ?_
                      rw [Int.toNat_natCast, map_set, liv_setx]
                      repeat fail
                      have hgw2 : ∀ (a : Option Ob), (S ++ liv N B S.length (List.set [some (.lst ((List.range N).map fun i => W.dat (.bool (f i)))), some (.lst (nW w))] 0 a))[S.length + (N + 1 + 1)]? = some (some (.lst (nW w))) := fun a => liv_x
                      have hwl : w.length ≤ 5000 := by
                        have := falses_le N f
                        omega
                      refine wp_recv (recv_append (hgw2 _)) ?_
                      repeat fail
                      refine wp_method (append_obj (hgw2 _) (by simp; omega)) ?_
                      rw [liv_setx]
                      repeat fail
                      refine ⟨setT f i, w ++ [i], _, livJ_take J hi b hb hf ho, by simp; omega, rfl, ?_⟩
                      have e1 : nW w ++ [W.dat (nD i)] = nW (w ++ [i]) := by simp [nW]
                      have e2 : ((List.range N).map fun j => if j = i then W.dat (.bool true) else W.dat (.bool (f j))) = (List.range N).map fun j => W.dat (.bool (setT f i j)) := by
                        refine List.map_congr_left fun j _ => ?_
                        unfold setT
                        by_cases q : j = i <;> simp [q]
                      rw [e1, e2]
                      rfl
                    · repeat fail
                      exact ⟨f, w, _, livJ_skip J (.inr (of_decide_eq_false ho)), hm, rfl, rfl⟩
                  · repeat fail
                    exact ⟨f, w, _, livJ_skip J (.inl (by simpa using hf)), hm, rfl, rfl⟩
              · rintro g S2 ⟨f, w, x3, J, hm, rfl, rfl⟩
                repeat fail
                refine ⟨_, hm, f, w, _, _, rfl, by omega, livJ_end J fun i b hi hb => ?_, rfl, rfl⟩
                rw [List.length_map, List.take_length]
                exact (hB i x).mpr ⟨hi, b, hb⟩
            · have hw : w = [] := by
                cases w with
                | nil => rfl
                | cons a l => cases h
              subst hw
              repeat fail
              refine .inr ⟨by omega, _, _, hgf f [], ?_, ⟨f, fun i hi => livI_end hz I i hi, rfl⟩, take_app⟩
              have := allDat_map ((List.range N).map fun i => PyData.bool (f i))
              rwa [List.map_map] at this
          · have h1 := falses_le N fun i => decide (k i = .wh)
            have h2 := List.length_filter_le (fun i => decide (k i = .wh)) (List.range N)
            rw [List.length_range] at h2
            simp only [whileFuel]
            omega
          · have h1 := falses_le N fun i => decide (k i = .wh)
            have h2 := List.length_filter_le (fun i => decide (k i = .wh)) (List.range N)
            rw [List.length_range] at h2
            omega
  obtain ⟨a, S', h1, ⟨f, h2, rfl⟩, rfl⟩ := ex_of_wp key
  exact ⟨f, h2, h1⟩
end K29
end

section
set_option Elab.async false
set_option linter.all false
set_option maxRecDepth 100000
set_option maxHeartbeats 1000000
set_option autoImplicit false
/-! KL10: is_least. -/
open PySem L2 Mp Mp.Q KM
local macro_rules
  | `(tactic| fail) => `(tactic| first
    | with_reducible refine wp_nxS ?_
    | with_reducible refine wp_rtS ?_
    | with_reducible refine wp_bkS ?_
    | with_reducible refine wp_ctS ?_
    | with_reducible refine wp_xcS ?_
    | with_reducible refine wp_nxF ?_
    | with_reducible refine wp_ctF ?_
    | with_reducible refine wp_bkF ?_
    | with_reducible refine wp_rtF ?_
    | with_reducible refine wp_xcF ?_
    | with_reducible refine wp_nxD ?_
    | with_reducible refine wp_rtD ?_
    | with_reducible refine wp_rtC ?_
    | with_reducible refine wp_rtO ?_
    | with_reducible refine wp_xcD ?_
    | with_reducible refine wp_ret ?_
    | with_reducible refine wp_seq ?_
    | with_reducible refine wp_bndE ?_
    | with_reducible refine wp_bnd ?_
    | ((with_reducible apply wp_getS); · rfl)
    | with_reducible refine wp_evs_cons ?_
    | with_reducible refine wp_evs_nil ?_
    | with_reducible refine wp_tup ?_
    | with_reducible refine wp_and1 ?_
    | with_reducible refine wp_and ?_
    | with_reducible refine wp_or1 ?_
    | with_reducible refine wp_or ?_
    | with_reducible refine wp_boolV1 ?_
    | with_reducible refine wp_boolA ?_
    | with_reducible refine wp_boolO ?_
    | with_reducible refine wp_opt ?_
    | with_reducible refine optQ_int ?_
    | with_reducible refine wp_listD ?_
    | with_reducible refine wp_listL ?_
    | refine ⟨[], rfl, Nat.le_of_ble_eq_true rfl, ?_⟩
    | refine ⟨[_], rfl, Nat.le_of_ble_eq_true rfl, ?_⟩
    | refine ⟨[_, _], rfl, Nat.le_of_ble_eq_true rfl, ?_⟩
    | refine ⟨[_, _, _], rfl, Nat.le_of_ble_eq_true rfl, ?_⟩
    | refine ⟨[_, _, _, _], rfl, Nat.le_of_ble_eq_true rfl, ?_⟩
    | refine ⟨[_, _, _, _, _], rfl, Nat.le_of_ble_eq_true rfl, ?_⟩
    | refine ⟨[_, _, _, _, _, _], rfl, Nat.le_of_ble_eq_true rfl, ?_⟩
    | refine ⟨[_, _, _, _, _, _, _], rfl, Nat.le_of_ble_eq_true rfl, ?_⟩
    | ((with_reducible apply wp_blt); · with_reducible exact len_lst)
    | ((with_reducible apply wp_walkV); · with_reducible exact walk_lst)
    | ((with_reducible apply wp_enum); · with_reducible exact enum_lst)
    | ((with_reducible apply wp_cmp); · with_reducible exact eq_int)
    | ((with_reducible apply wp_cmp); · with_reducible exact ne_int)
    | ((with_reducible apply wp_bin); · with_reducible exact bin_add)
    | ((with_reducible apply wp_bin); · with_reducible exact bin_sub)
    | ((with_reducible apply wp_bin); · with_reducible exact bin_mod (by decide))
    | ((with_reducible apply wp_bin); · with_reducible exact bin_fdiv (by decide) (by decide))
    | ((with_reducible apply wp_bin); · with_reducible exact bin_pow (by decide))
    | ((with_reducible apply wp_cmp); · rfl)
    | ((with_reducible apply wp_truth); · rfl)
    | ((with_reducible apply wp_asBool); · rfl)
    | ((with_reducible apply wp_isi); · rfl)
    | ((with_reducible apply wp_neg); · rfl)
    | ((with_reducible apply wp_asgTup); · rfl)
    | ((with_reducible apply wp_item); · with_reducible exact item_lst (by omega))
    | ((with_reducible apply wp_item); · rfl)
    | ((with_reducible refine wp_condT ?_ ?_); · rfl)
    | ((with_reducible refine wp_condF ?_ ?_); · rfl))
namespace KM
theorem cnt_full {C : Nat → Nat} {N : Nat} : cnt C N = N ↔ Inj N C := by
  constructor
  · intro h i j hi hj e
    have hall : ∀ x ∈ List.range N, isF C x = true := by
      have : (List.range N).countP (isF C) = (List.range N).length := by rw [List.length_range]; exact h
      exact List.countP_eq_length.mp this
    have h1 : fst C i = i := of_decide_eq_true (hall i (by simpa using hi))
    have h2 : fst C j = j := of_decide_eq_true (hall j (by simpa using hj))
    rw [← h1, ← h2]
    exact fst_eq.mpr e
  · intro h
    have : (List.range N).countP (isF C) = (List.range N).length := by
      refine List.countP_eq_length.mpr fun x hx => isF_iff.mpr fun i hi e => ?_
      have hx : x < N := by simpa using hx
      have := h i x (by omega) hx e
      omega
    rw [List.length_range] at this
    exact this
end KM
namespace Mp.Q
theorem met_cnt (val : Nat → Int) : ∀ i, (PyProof.Rows.firstMet val i).length = cnt val i ∧ ∀ x, x ∈ PyProof.Rows.firstMet val i ↔ ∃ j, j < i ∧ val j = x
  | 0 => ⟨rfl, fun x => ⟨fun h => (by rw [PyProof.Rows.firstMet_zero] at h; cases h), fun ⟨j, h, _⟩ => absurd h (by omega)⟩⟩
  | i + 1 => by
    obtain ⟨h1, h2⟩ := met_cnt val i
    rw [PyProof.Rows.firstMet_succ, cnt_succ]
    unfold PyProof.Rows.step_dedup
    by_cases h : val i ∈ PyProof.Rows.firstMet val i
    · have ha : (PyProof.Rows.firstMet val i).any (· == val i) = true := List.any_eq_true.mpr ⟨_, h, by simp⟩
      have hf : ¬ isF val i = true := fun q => by
        obtain ⟨j, hj, e⟩ := (h2 _).mp h
        exact isF_iff.mp q j hj e
      rw [if_pos ha, if_neg hf]
      refine ⟨h1, fun x => ?_⟩
      rw [h2]
      constructor
      · rintro ⟨j, hj, e⟩; exact ⟨j, by omega, e⟩
      · rintro ⟨j, hj, e⟩
        by_cases q : j = i
        · subst q
          subst e
          exact (h2 _).mp h
        · exact ⟨j, by omega, e⟩
    · have ha : ¬ (PyProof.Rows.firstMet val i).any (· == val i) = true := fun q => by
        obtain ⟨y, hy, e⟩ := List.any_eq_true.mp q
        have : y = val i := by simpa using e
        exact h (this ▸ hy)
      have hf : isF val i = true := isF_iff.mpr fun j hj e => h ((h2 _).mpr ⟨j, hj, e⟩)
      rw [if_neg ha, if_pos hf]
      refine ⟨by rw [List.length_append, h1]; rfl, fun x => ?_⟩
      rw [List.mem_append, h2, List.mem_singleton]
      constructor
      · rintro (⟨j, hj, e⟩ | rfl)
        · exact ⟨j, by omega, e⟩
        · exact ⟨i, by omega, rfl⟩
      · rintro ⟨j, hj, e⟩
        by_cases q : j = i
        · subst q; exact .inr e.symm
        · exact .inl ⟨j, by omega, e⟩
theorem asInts_lst {C : Nat → Nat} : ∀ l : List Nat, asInts (l.map fun i => W.dat (nD (C i))) = some (l.map fun i => (C i : Int))
  | [] => rfl
  | x :: l => by
    show (match asInt (W.dat (nD (C x))), asInts (l.map fun i => W.dat (nD (C i))) with
      | some i, some is => some (i :: is)
      | _, _ => none) = _
    rw [asInts_lst l]
    rfl
theorem lenSet_lst {S : Store} {N : Nat} {C : Nat → Nat} (hN : N ≤ 4000) : lenSet (.dat (lst N fun i => nD (C i))) S = .ok (.dat (nD (cnt C N))) S := by
  have hk : kindsOf ((List.range N).map fun i => (C i : Int)) = cnt C N := by
    unfold kindsOf
    have e : (PyProof.Rows.firstMet (fun i => ((List.range N).map fun i => (C i : Int)).getD i 0) ((List.range N).map fun i => (C i : Int)).length).length = _ := (met_cnt _ _).1
    rw [e, List.length_map, List.length_range]
    refine cnt_same fun i j hi hj => ?_
    have g : ∀ i, i < N → ((List.range N).map fun i => (C i : Int)).getD i 0 = C i := fun i hi => by
      rw [List.getD_eq_getElem?_getD, List.getElem?_map, List.getElem?_range hi]
      rfl
    rw [g i hi, g j hj]
    omega
  have e : lenSet (.dat (lst N fun i => nD (C i))) S = (match asInts (((List.range N).map fun i => nD (C i)).map W.dat) with
    | some ns => if ns.length ≤ 4000 then .ok (.dat (.int (kindsOf ns : Nat))) S else .stuck
    | none => .stuck) := rfl
  have e2 : ((List.range N).map fun i => nD (C i)).map W.dat = (List.range N).map fun i => W.dat (nD (C i)) := by rw [List.map_map]; rfl
  rw [e, e2, asInts_lst]
  show (if ((List.range N).map fun i => (C i : Int)).length ≤ 4000 then Res.ok (W.dat (.int (kindsOf ((List.range N).map fun i => (C i : Int)) : Nat))) S else .stuck) = _
  rw [if_pos (by simpa using hN), hk]
theorem zip3L_lst {a b c : Nat → PyData} : ∀ (l : List Nat), zip3L (l.map a) (l.map b) (l.map c) = l.map fun i => W.dat (.tuple [a i, b i, c i])
  | [] => rfl
  | x :: l => by
    show W.dat (.tuple [a x, b x, c x]) :: zip3L (l.map a) (l.map b) (l.map c) = _
    rw [zip3L_lst l]
    rfl
theorem zip3_lst {S : Store} {N : Nat} {a b c : Nat → PyData} : zip3M (.dat (lst N a)) (.dat (lst N b)) (.dat (lst N c)) S = .ok (.list ((List.range N).map fun i => .dat (.tuple [a i, b i, c i]))) S := by
  have e : zip3M (.dat (lst N a)) (.dat (lst N b)) (.dat (lst N c)) S = .ok (.list (zip3L ((List.range N).map a) ((List.range N).map b) ((List.range N).map c))) S := rfl
  rw [e, zip3L_lst]
end Mp.Q
namespace K29
theorem ne_op {S : Store} {k : Kd} : cmpOp .NotEq (.dat (kdD k)) (.dat (.str "open")) S = .ok (!decide (k = .op)) S := by
  have := ne_str (S := S) (kdS_ok k) (kdS_ok .op)
  rw [show cmpOp .NotEq (.dat (kdD k)) (.dat (.str "open")) S = cmpOp .NotEq (.dat (.str (kdS k))) (.dat (.str (kdS .op))) S from rfl, this]
  by_cases h : k = .op
  · subst h; simp
  · rw [decide_eq_false h, decide_eq_false fun q => h (kdS_inj q)]
theorem kinds_right_ok (n N : Nat) (z : Nat → Bool → Nat) (k : Nat → Kd) (S : Store) (hN : 0 < N) (hM : N ≤ 900) (hz : ∀ i b, i < N → z i b < N) :
    ∃ b, (b = true ↔ ∀ i, i < N → (k i = .op → Live k z i) ∧ (k i ≠ .op → ∀ b, k (z i b) = .de)) ∧ calls G ds (n + 2) "are_kinds_right" [.dat (stepsD N z), .dat (lst N fun i => kdD (k i))] S = .ok (.dat (.bool b)) S := by
  obtain ⟨f, hf, hc⟩ := lively_ok n N z k S hN hM hz
  have key : wp (calls G ds (n + 2) "are_kinds_right" [.dat (stepsD N z), .dat (lst N fun i => kdD (k i))]) S (fun a S' => (∃ b, (b = true ↔ ∀ i, i < N → (k i = .op → Live k z i) ∧ (k i ≠ .op → ∀ b, k (z i b) = .de)) ∧ a = .dat (.bool b)) ∧ S' = S) noE := by
    refine c_are_kinds_right ?_
    unfold p_are_kinds_right
    repeat fail
    refine wp_of hc ?_
    repeat fail
    refine wp_zip3 zip3_lst ?_
    refine wp_for (fun t g S2 => ∃ (x3 x4 x5 x6 : Option W), g = [some (.dat (stepsD N z)), some (.dat (lst N fun i => kdD (k i))), some (.dat (lst N fun i => .bool (f i))), x3, x4, x5, x6] ∧ S2 = S ∧ ∀ i, i < t → (k i = .op → Live k z i) ∧ (k i ≠ .op → ∀ b, k (z i b) = .de)) ?_ ?_ _ 0 _ _ (by simp [walkFuel]; omega) (by omega) ⟨_, _, _, _, rfl, rfl, fun i h => absurd h (by omega)⟩
    · rintro t w g S2 hw ⟨x3, x4, x5, x6, rfl, rfl, hI⟩
      have ht : t < N := by have := (List.getElem?_eq_some_iff.mp hw).1; simpa using this
      rw [List.getElem?_map, List.getElem?_range ht] at hw
      cases hw
      have ex : ∀ (P : Prop), P → ∀ i, i < t + 1 → i = t ∨ i < t := fun _ _ i h => by omega
      have bad : ∀ P : Prop, (¬ ((k t = .op → Live k z t) ∧ (k t ≠ .op → ∀ b, k (z t b) = .de))) → ((false = true) ↔ ∀ i, i < N → (k i = .op → Live k z i) ∧ (k i ≠ .op → ∀ b, k (z i b) = .de)) := fun _ h => ⟨fun q => (by cases q), fun q => absurd (q t ht) h⟩
      have next : ((k t = .op → Live k z t) ∧ (k t ≠ .op → ∀ b, k (z t b) = .de)) → ∀ i, i < t + 1 → (k i = .op → Live k z i) ∧ (k i ≠ .op → ∀ b, k (z i b) = .de) := fun h i hi => by
        by_cases e : i = t
        · subst e; exact h
        · exact hI i (by omega)
      repeat fail
      refine wp_cmp eq_op ?_
      repeat fail
      have z0 := hz t false ht
      have z1 := hz t true ht
      by_cases ho : k t = .op
      · refine wp_condT (decide_eq_true ho) ?_
        repeat fail
        refine wp_cond (fun hl => ?_) fun hl => ?_
        · repeat fail
          have hl : f t = false := by simpa using hl
          exact ⟨⟨false, bad True fun q => (by rw [(hf t ht).mpr (q.1 ho)] at hl; cases hl), rfl⟩, List.take_length⟩
        · repeat fail
          have hl : f t = true := by simpa using hl
          refine wp_cmp ne_op ?_
          repeat fail
          refine wp_condF (by rw [decide_eq_true ho]; rfl) ?_
          repeat fail
          exact ⟨_, _, _, _, rfl, rfl, next ⟨fun _ => (hf t ht).mp hl, fun q => absurd ho q⟩⟩
      · refine wp_condF (decide_eq_false ho) ?_
        repeat fail
        refine wp_cmp ne_op ?_
        repeat fail
        refine wp_condT (by rw [decide_eq_false ho]; rfl) ?_
        repeat fail
        refine wp_walkV walk_tup ?_
        refine wp_bnd (wp_compA (n := 2) (w := fun i => W.dat (nD (if i = 0 then z t false else z t true))) (fun i => .dat (.bool (decide (k (if i = 0 then z t false else z t true) = .de)))) (by omega) (fun i hi => ?_) ?_)
        · have zi : (if i = 0 then z t false else z t true) < N := by split <;> assumption
          repeat fail
          refine wp_cmp eq_de ?_
          repeat fail
          exact ⟨rfl, rfl⟩
        refine wp_newList (new_lst fun i _ => rfl) ?_
        repeat fail
        refine wp_blt (w := .dat (.bool (decide (k (z t false) = .de) && (decide (k (z t true) = .de) && true)))) rfl ?_
        repeat fail
        refine wp_cond (fun h => ?_) fun h => ?_
        · repeat fail
          refine ⟨⟨false, bad True fun q => ?_, rfl⟩, List.take_length⟩
          have := q.2 ho
          rw [decide_eq_true (this false), decide_eq_true (this true)] at h
          cases h
        · repeat fail
          have h : (decide (k (z t false) = .de) && (decide (k (z t true) = .de) && true)) = true := by simpa using h
          simp only [Bool.and_eq_true, decide_eq_true_eq, Bool.and_true] at h
          exact ⟨_, _, _, _, rfl, rfl, next ⟨fun q => absurd q ho, fun _ b => by cases b; exact h.1; exact h.2⟩⟩
    · rintro g S2 ⟨x3, x4, x5, x6, rfl, rfl, hI⟩
      rw [List.length_map, List.length_range] at hI
      repeat fail
      exact ⟨⟨true, ⟨fun _ => hI, fun _ => rfl⟩, rfl⟩, List.take_length⟩
  obtain ⟨a, S', h1, ⟨b, h2, rfl⟩, rfl⟩ := ex_of_wp key
  exact ⟨b, h2, h1⟩
end K29
end

section
set_option Elab.async false
set_option linter.all false
set_option maxRecDepth 100000
set_option maxHeartbeats 1000000
set_option autoImplicit false
/-! KL11: is_least. -/
open PySem L2 Mp Mp.Q KM
local macro_rules
  | `(tactic| fail) => `(tactic| first
    | with_reducible refine wp_nxS ?_
    | with_reducible refine wp_rtS ?_
    | with_reducible refine wp_bkS ?_
    | with_reducible refine wp_ctS ?_
    | with_reducible refine wp_xcS ?_
    | with_reducible refine wp_nxF ?_
    | with_reducible refine wp_ctF ?_
    | with_reducible refine wp_bkF ?_
    | with_reducible refine wp_rtF ?_
    | with_reducible refine wp_xcF ?_
    | with_reducible refine wp_nxD ?_
    | with_reducible refine wp_rtD ?_
    | with_reducible refine wp_rtC ?_
    | with_reducible refine wp_rtO ?_
    | with_reducible refine wp_xcD ?_
    | with_reducible refine wp_ret ?_
    | with_reducible refine wp_seq ?_
    | with_reducible refine wp_bndE ?_
    | with_reducible refine wp_bnd ?_
    | ((with_reducible apply wp_getS); · rfl)
    | with_reducible refine wp_evs_cons ?_
    | with_reducible refine wp_evs_nil ?_
    | with_reducible refine wp_tup ?_
    | with_reducible refine wp_and1 ?_
    | with_reducible refine wp_and ?_
    | with_reducible refine wp_or1 ?_
    | with_reducible refine wp_or ?_
    | with_reducible refine wp_boolV1 ?_
    | with_reducible refine wp_boolA ?_
    | with_reducible refine wp_boolO ?_
    | with_reducible refine wp_opt ?_
    | with_reducible refine optQ_int ?_
    | with_reducible refine wp_listD ?_
    | with_reducible refine wp_listL ?_
    | refine ⟨[], rfl, Nat.le_of_ble_eq_true rfl, ?_⟩
    | refine ⟨[_], rfl, Nat.le_of_ble_eq_true rfl, ?_⟩
    | refine ⟨[_, _], rfl, Nat.le_of_ble_eq_true rfl, ?_⟩
    | refine ⟨[_, _, _], rfl, Nat.le_of_ble_eq_true rfl, ?_⟩
    | refine ⟨[_, _, _, _], rfl, Nat.le_of_ble_eq_true rfl, ?_⟩
    | refine ⟨[_, _, _, _, _], rfl, Nat.le_of_ble_eq_true rfl, ?_⟩
    | refine ⟨[_, _, _, _, _, _], rfl, Nat.le_of_ble_eq_true rfl, ?_⟩
    | refine ⟨[_, _, _, _, _, _, _], rfl, Nat.le_of_ble_eq_true rfl, ?_⟩
    | ((with_reducible apply wp_blt); · with_reducible exact len_lst)
    | ((with_reducible apply wp_walkV); · with_reducible exact walk_lst)
    | ((with_reducible apply wp_enum); · with_reducible exact enum_lst)
    | ((with_reducible apply wp_cmp); · with_reducible exact eq_int)
    | ((with_reducible apply wp_cmp); · with_reducible exact ne_int)
    | ((with_reducible apply wp_bin); · with_reducible exact bin_add)
    | ((with_reducible apply wp_bin); · with_reducible exact bin_sub)
    | ((with_reducible apply wp_bin); · with_reducible exact bin_mod (by decide))
    | ((with_reducible apply wp_bin); · with_reducible exact bin_fdiv (by decide) (by decide))
    | ((with_reducible apply wp_bin); · with_reducible exact bin_pow (by decide))
    | ((with_reducible apply wp_cmp); · rfl)
    | ((with_reducible apply wp_truth); · rfl)
    | ((with_reducible apply wp_asBool); · rfl)
    | ((with_reducible apply wp_isi); · rfl)
    | ((with_reducible apply wp_neg); · rfl)
    | ((with_reducible apply wp_asgTup); · rfl)
    | ((with_reducible apply wp_item); · with_reducible exact item_lst (by omega))
    | ((with_reducible apply wp_item); · rfl)
    | ((with_reducible refine wp_condT ?_ ?_); · rfl)
    | ((with_reducible refine wp_condF ?_ ?_); · rfl))
namespace K29
theorem kind_of {c : PyData} (h : kindB c = true) : ∃ k, c = kdD k := by
  cases c with
  | str x =>
    simp only [kindB, Bool.or_eq_true, decide_eq_true_eq] at h
    rcases h with (rfl | rfl) | rfl
    · exact ⟨.op, rfl⟩
    · exact ⟨.wh, rfl⟩
    · exact ⟨.de, rfl⟩
  | _ => cases h
theorem idx_of {n : Nat} {a : PyData} (h : idxB n a = true) : ∃ i, i < n ∧ a = nD i := by
  cases a with
  | int j =>
    simp only [idxB, Bool.and_eq_true, decide_eq_true_eq] at h
    exact ⟨j.toNat, by omega, by show PyData.int j = .int (j.toNat : Int); rw [Int.toNat_of_nonneg h.1]⟩
  | _ => cases h
theorem row_of {n : Nat} {d : PyData} (h : rowOk n d = true) : ∃ r : Row, d = rowD r ∧ r.1 < n ∧ r.2.1 < n := by
  unfold rowOk at h
  split at h
  · simp only [Bool.and_eq_true] at h
    obtain ⟨i, hi, rfl⟩ := idx_of h.1.1
    obtain ⟨j, hj, rfl⟩ := idx_of h.1.2
    obtain ⟨k, rfl⟩ := kind_of h.2
    exact ⟨(i, j, k), rfl, hi, hj⟩
  · cases h
theorem rows_of {n : Nat} : ∀ {ds : List PyData}, (∀ d ∈ ds, rowOk n d = true) → ∃ rs : List Row, ds = rs.map rowD ∧ ∀ r ∈ rs, r.1 < n ∧ r.2.1 < n
  | [], _ => ⟨[], rfl, by simp⟩
  | d :: ds, h => by
    obtain ⟨r, rfl, hr⟩ := row_of (h d (by simp))
    obtain ⟨rs, rfl, hrs⟩ := rows_of (ds := ds) fun d hd => h d (by simp [hd])
    exact ⟨r :: rs, rfl, fun x hx => by rcases List.mem_cons.mp hx with rfl | hx; exact hr; exact hrs x hx⟩
theorem formed_rows {ds : List PyData} (h : formedB (.list ds) = true) : ∃ rs : List Row, ds = rs.map rowD ∧ Formed rs := by
  simp only [formedB, Bool.and_eq_true] at h
  obtain ⟨rs, rfl, hrs⟩ := rows_of (n := ds.length) (List.all_eq_true.mp h.2)
  rw [List.length_map] at hrs
  refine ⟨rs, rfl, ⟨?_, fun i b hi => ?_⟩⟩
  · cases rs with
    | nil => cases h.1
    | cons r rs => simp
  · have hm : rowAt rs i ∈ rs := List.mem_of_getElem? (rowAt_eq hi)
    have := hrs _ hm
    cases b
    · exact this.1
    · exact this.2
theorem rowD_inj {a b : Row} (h : rowD a = rowD b) : a = b := by
  unfold rowD at h
  simp only [PyData.tuple.injEq, List.cons.injEq, PyData.int.injEq, and_true] at h
  obtain ⟨h1, h2, h3⟩ := h
  have h3 : kdS a.2.2 = kdS b.2.2 := by injection h3
  have e1 : a.1 = b.1 := by omega
  have e2 : a.2.1 = b.2.1 := by omega
  exact Prod.ext e1 (Prod.ext e2 (kdS_inj h3))
theorem rowsD_inj {a b : List Row} (h : rowsD a = rowsD b) : a = b := by
  injection h with h
  exact (List.map_inj_right fun _ _ => rowD_inj).mp h
def isIntB : PyData → Bool
  | .int _ => true
  | _ => false
def isT3 : PyData → Bool
  | .tuple xs => decide (xs.length = 3)
  | _ => false
section
variable {n : Nat} {v : PyData} {S : Store}
theorem is_integer_ok (hv : Fine v) : calls G ds (n + 1) "is_integer" [.dat v] S = .ok (.dat (.bool (isIntB v))) S := by
  refine eq_of_wp (c_is_integer ?_)
  unfold p_is_integer
  cases v with
  | dict kvs => exact hv.nodict.elim
  | _ =>
    repeat fail
    exact ⟨rfl, List.take_length⟩
theorem is_index_ok {m : Nat} (hv : Fine v) : calls G ds (n + 3) "is_index_of" [.dat (nD m), .dat v] S = .ok (.dat (.bool (idxB m v))) S := by
  refine eq_of_wp (c_is_index_of ?_)
  unfold p_is_index_of
  repeat fail
  refine wp_of (a := W.dat (.bool (idxB m v))) (S' := S) ?_ ?_
  · refine eq_of_wp (c_is_between ?_)
    unfold p_is_between
    repeat fail
    refine wp_of (is_integer_ok hv) ?_
    cases v with
    | int i =>
      repeat fail
      refine wp_cond (fun h => ?_) fun h => ?_
      · repeat fail
        refine ⟨?_, List.take_length⟩
        show _ = W.dat (.bool (decide (0 ≤ i) && decide (i < m)))
        rw [h, Bool.true_and]
        by_cases q : i < m
        · rw [decide_eq_true q, decide_eq_true (show i ≤ (m : Int) - 1 by omega)]
        · rw [decide_eq_false q, decide_eq_false (show ¬ i ≤ (m : Int) - 1 by omega)]
      · repeat fail
        exact ⟨by show _ = W.dat (.bool (decide (0 ≤ i) && decide (i < m))); rw [h]; rfl, List.take_length⟩
    | _ =>
      repeat fail
      exact ⟨rfl, List.take_length⟩
  repeat fail
  exact ⟨rfl, List.take_length⟩
theorem is_tuple_ok (hv : Fine v) : calls G ds (n + 1) "is_tuple_of" [.dat (nD 3), .dat v] S = .ok (.dat (.bool (isT3 v))) S := by
  refine eq_of_wp (c_is_tuple_of ?_)
  unfold p_is_tuple_of
  repeat fail
  refine wp_isi (isi_tuple hv) ?_
  cases v with
  | tuple xs =>
    repeat fail
    refine wp_blt len_tup ?_
    repeat fail
    refine ⟨?_, List.take_length⟩
    show _ = W.dat (.bool (decide (xs.length = 3)))
    by_cases h : xs.length = 3
    · rw [decide_eq_true h, h]; rfl
    · rw [decide_eq_false h, decide_eq_false (by omega)]
  | _ =>
    repeat fail
    exact ⟨rfl, List.take_length⟩
end
/-- what is_least says -/
def LeastB (v : PyData) (b : Bool) : Prop := (formedB v = false → b = false) ∧ ∀ rs, v = rowsD rs → Formed rs → (b = true ↔ InOrder rs ∧ KindsRight rs ∧ ∃ C, Coarse rs.length (kd rs) (go rs) C ∧ Inj rs.length C)
theorem is_least_ok (n : Nat) (v : PyData) (S : Store) (hv : Fine v) (hl : ∀ ds, v = .list ds → ds.length ≤ 900) : ∃ b, LeastB v b ∧ calls G ds (n + 4) "is_least" [.dat v] S = .ok (.dat (.bool b)) S := by
  have key : wp (calls G ds (n + 4) "is_least" [.dat v]) S (fun a S' => (∃ b, LeastB v b ∧ a = .dat (.bool b)) ∧ S' = S) noE := by
    have no : formedB v = false → ∀ S' : Store, S'.take S.length = S → (∃ b, LeastB v b ∧ W.dat (.bool false) = .dat (.bool b)) ∧ S'.take S.length = S := fun h S' hs => by
      refine ⟨⟨false, ⟨fun _ => rfl, fun rs e F => ?_⟩, rfl⟩, hs⟩
      subst e
      exfalso
      have : formedB (rowsD rs) = true := by
        show (!(rs.map rowD).isEmpty && (rs.map rowD).all (rowOk (rs.map rowD).length)) = true
        have h1 : (rs.map rowD).isEmpty = false := by
          cases rs with
          | nil => exact absurd F.ne (by simp)
          | cons r rs => rfl
        rw [h1]
        refine List.all_eq_true.mpr fun d hd => ?_
        obtain ⟨r, hr, rfl⟩ := List.mem_map.mp hd
        obtain ⟨i, hi, e⟩ := List.mem_iff_getElem.mp hr
        have hrow : rowAt rs i = r := by
          have := rowAt_eq hi
          rw [List.getElem?_eq_getElem hi, e] at this
          exact (Option.some.inj this).symm
        have l0 : r.1 < rs.length := by have := F.lt i false hi; unfold go at this; rw [hrow] at this; exact this
        have l1 : r.2.1 < rs.length := by have := F.lt i true hi; unfold go at this; rw [hrow] at this; exact this
        show (idxB _ (nD r.1) && idxB _ (nD r.2.1) && kindB (kdD r.2.2)) = true
        rw [List.length_map]
        have k1 : kindB (kdD r.2.2) = true := by cases r.2.2 <;> decide +kernel
        show ((decide ((0 : Int) ≤ (r.1 : Int)) && decide ((r.1 : Int) < (rs.length : Int))) && (decide ((0 : Int) ≤ (r.2.1 : Int)) && decide ((r.2.1 : Int) < (rs.length : Int))) && _) = true
        rw [k1, decide_eq_true (show (0 : Int) ≤ (r.1 : Int) by omega), decide_eq_true (show (r.1 : Int) < (rs.length : Int) by omega), decide_eq_true (show (0 : Int) ≤ (r.2.1 : Int) by omega), decide_eq_true (show (r.2.1 : Int) < (rs.length : Int) by omega)]
        rfl
      rw [this] at h
      cases h
    refine c_is_least ?_
    unfold p_is_least
    repeat fail
    refine wp_isi (isi_list hv) ?_
    cases v with
    | list ds =>
      have hlen := hl ds rfl
      repeat fail
      refine wp_blt len_list ?_
      repeat fail
      refine wp_cond (fun h => ?_) fun h => ?_
      · repeat fail
        refine no ?_ S List.take_length
        have : ds.length = 0 := by have := of_decide_eq_true h; omega
        rw [List.length_eq_zero_iff.mp this]
        rfl
      have hne : ds.length ≠ 0 := by have := of_decide_eq_false h; omega
      repeat fail
      refine wp_walkV walk_list ?_
      refine wp_for (fun i g S' => ∃ x1 : Option W, g = [some (.dat (.list ds)), x1, none, none, none, none, none] ∧ S' = S ∧ ∀ d ∈ ds.take i, rowOk ds.length d = true) ?_ ?_ _ 0 _ _ (by simp [walkFuel]; omega) (by omega) ⟨_, rfl, rfl, by simp⟩
      · rintro i w g S' hw ⟨x1, rfl, rfl, hI⟩
        rw [List.getElem?_map] at hw
        cases e : ds[i]? with
        | none => rw [e] at hw; cases hw
        | some d =>
          rw [e] at hw
          cases hw
          have hm : d ∈ ds := List.mem_of_getElem? e
          have fd := hv.item hm
          have et : ds.take (i + 1) = ds.take i ++ [d] := by rw [List.take_add_one, e]; rfl
          have bad : rowOk ds.length d = false → formedB (.list ds) = false := formedB_bad hm
          repeat fail
          refine wp_of (is_tuple_ok fd) ?_
          repeat fail
          by_cases h3 : isT3 d = true
          · refine wp_condF (by rw [h3]; rfl) ?_
            obtain ⟨a, b, c, rfl⟩ : ∃ a b c, d = .tuple [a, b, c] := by
              cases d with
              | tuple xs =>
                have h3 := of_decide_eq_true h3
                match xs, h3 with
                | [a, b, c], _ => exact ⟨a, b, c, rfl⟩
              | _ => cases h3
            have fa := fd.part (d := a) (by simp)
            have fb := fd.part (d := b) (by simp)
            have fc := fd.part (d := c) (by simp)
            repeat fail
            refine wp_isi (isi_str fc) ?_
            repeat fail
            by_cases hs : is_str c = true
            · refine wp_condF (by rw [hs]; rfl) ?_
              repeat fail
              refine wp_cmp (notin_kindsT fc) ?_
              repeat fail
              refine wp_cond (fun hk => ?_) fun hk => ?_
              · repeat fail
                have hk : kindB c = false := by simpa using hk
                exact no (bad (by show (idxB ds.length a && idxB ds.length b && kindB c) = false; rw [hk, Bool.and_false])) S' List.take_length
              have hk : kindB c = true := by simpa using hk
              repeat fail
              refine wp_blt len_list ?_
              repeat fail
              refine wp_of (is_index_ok fa) ?_
              repeat fail
              refine wp_cond (fun ha => ?_) fun ha => ?_
              · repeat fail
                have ha : idxB ds.length a = false := by simpa using ha
                exact no (bad (by show (idxB ds.length a && idxB ds.length b && kindB c) = false; rw [ha]; rfl)) S' List.take_length
              have ha : idxB ds.length a = true := by simpa using ha
              repeat fail
              refine wp_blt len_list ?_
              repeat fail
              refine wp_of (is_index_ok fb) ?_
              repeat fail
              refine wp_cond (fun hb => ?_) fun hb => ?_
              · repeat fail
                have hb : idxB ds.length b = false := by simpa using hb
                exact no (bad (by show (idxB ds.length a && idxB ds.length b && kindB c) = false; rw [hb, Bool.and_false]; rfl)) S' List.take_length
              have hb : idxB ds.length b = true := by simpa using hb
              repeat fail
              refine ⟨_, rfl, rfl, fun d hd => ?_⟩
              rw [et] at hd
              rcases List.mem_append.mp hd with hd | hd
              · exact hI d hd
              · rw [List.mem_singleton] at hd
                subst hd
                show (idxB ds.length a && idxB ds.length b && kindB c) = true
                rw [ha, hb, hk]
                rfl
            · have hs : is_str c = false := by simpa using hs
              refine wp_condT (by rw [hs]; rfl) ?_
              repeat fail
              refine no (bad ?_) S' List.take_length
              have : kindB c = false := by
                cases c with
                | str x => cases hs
                | _ => rfl
              show (idxB ds.length a && idxB ds.length b && kindB c) = false
              rw [this, Bool.and_false]
          · have h3 : isT3 d = false := by simpa using h3
            refine wp_condT (by rw [h3]; rfl) ?_
            repeat fail
            refine no (bad ?_) S' List.take_length
            unfold rowOk
            split
            · cases h3
            · rfl
      · rintro g S' ⟨x1, rfl, rfl, hI⟩
        rw [List.length_map, List.take_length] at hI
        have hf : formedB (.list ds) = true := by
          show (!ds.isEmpty && ds.all (rowOk ds.length)) = true
          rw [List.all_eq_true.mpr hI]
          cases ds with
          | nil => exact absurd rfl hne
          | cons d ds => rfl
        obtain ⟨rs, rfl, F⟩ := formed_rows hf
        have yes : ∀ b, (b = true ↔ InOrder rs ∧ KindsRight rs ∧ ∃ C, Coarse rs.length (kd rs) (go rs) C ∧ Inj rs.length C) → ∀ S2 : Store, S2.take S'.length = S' → (∃ b', LeastB (.list (rs.map rowD)) b' ∧ W.dat (.bool b) = .dat (.bool b')) ∧ S2.take S'.length = S' := fun b h S2 hs => by
          refine ⟨⟨b, ⟨fun q => (by rw [hf] at q; cases q), fun rs2 e F2 => ?_⟩, rfl⟩, hs⟩
          have : rs = rs2 := rowsD_inj e
          subst this
          exact h
        have hN : rs.length ≤ 900 := by simpa using hlen
        have hz : ∀ i b, i < rs.length → go rs i b < rs.length := F.lt
        have wk : ∀ S, walkV (.dat (.list (rs.map rowD))) S = .ok (.list ((List.range rs.length).map fun i => .dat (.tuple [nD (go rs i false), nD (go rs i true), kdD (kd rs i)]))) S := fun S => by
          have := walk_lst (S := S) (n := rs.length) (φ := fun i => .tuple [nD (go rs i false), nD (go rs i true), kdD (kd rs i)])
          rwa [← rowsD_lst] at this
        repeat fail
        refine wp_walkV (wk S') ?_
        repeat fail
        refine wp_compA (fun i => .dat (.tuple [nD (go rs i false), nD (go rs i true)])) (by omega) (fun i hi => ?_) ?_
        · repeat fail
          exact ⟨rfl, rfl⟩
        refine wp_newList (new_lst fun i _ => rfl) ?_
        repeat fail
        refine wp_walkV (wk S') ?_
        repeat fail
        refine wp_compA (fun i => .dat (kdD (kd rs i))) (by omega) (fun i hi => ?_) ?_
        · repeat fail
          exact ⟨rfl, rfl⟩
        refine wp_newList (new_lst fun i _ => rfl) ?_
        repeat fail
        obtain ⟨b1, hb1, c1⟩ := is_met_ok (n + 1) rs.length (go rs) S' F.ne hN hz
        obtain ⟨b2, hb2, c2⟩ := kinds_right_ok (n + 1) rs.length (go rs) (kd rs) S' F.ne hN hz
        obtain ⟨C, hC, c3⟩ := refined_ok (n + 2) rs.length (go rs) (kd rs) S' F.ne hN hz
        refine wp_of c1 ?_
        repeat fail
        cases b1 with
        | false =>
          repeat fail
          refine yes false ⟨fun q => (by cases q), fun q => ?_⟩ S' List.take_length
          have := hb1.mpr q.1
          cases this
        | true =>
          repeat fail
          refine wp_of c2 ?_
          repeat fail
          cases b2 with
          | false =>
            repeat fail
            refine yes false ⟨fun q => (by cases q), fun q => ?_⟩ S' List.take_length
            have := hb2.mpr q.2.1
            cases this
          | true =>
            repeat fail
            refine wp_of c3 ?_
            repeat fail
            refine wp_lenSet (lenSet_lst (by omega)) ?_
            repeat fail
            refine wp_blt len_list ?_
            repeat fail
            refine yes _ ?_ S' List.take_length
            rw [List.length_map, decide_eq_true_iff]
            constructor
            · intro e
              exact ⟨hb1.mp rfl, hb2.mp rfl, C, hC, cnt_full.mp (by omega)⟩
            · rintro ⟨_, _, C', hC', hI'⟩
              have := cnt_full.mpr (hC'.inj hz hC hI')
              omega
    | _ =>
      repeat fail
      exact no rfl S List.take_length
  obtain ⟨a, S', h1, ⟨b, h2, rfl⟩, rfl⟩ := ex_of_wp key
  exact ⟨b, h2, h1⟩
end K29
end

section
set_option Elab.async false
set_option linter.all false
set_option maxRecDepth 100000
set_option maxHeartbeats 1000000
set_option autoImplicit false
/-! KL12: judge, refused, right. -/
open PySem L2 Mp Mp.Q KM
local macro_rules
  | `(tactic| fail) => `(tactic| first
    | with_reducible refine wp_nxS ?_
    | with_reducible refine wp_rtS ?_
    | with_reducible refine wp_bkS ?_
    | with_reducible refine wp_ctS ?_
    | with_reducible refine wp_xcS ?_
    | with_reducible refine wp_nxF ?_
    | with_reducible refine wp_ctF ?_
    | with_reducible refine wp_bkF ?_
    | with_reducible refine wp_rtF ?_
    | with_reducible refine wp_xcF ?_
    | with_reducible refine wp_nxD ?_
    | with_reducible refine wp_rtD ?_
    | with_reducible refine wp_rtC ?_
    | with_reducible refine wp_rtO ?_
    | with_reducible refine wp_xcD ?_
    | with_reducible refine wp_ret ?_
    | with_reducible refine wp_seq ?_
    | with_reducible refine wp_bndE ?_
    | with_reducible refine wp_bnd ?_
    | ((with_reducible apply wp_getS); · rfl)
    | with_reducible refine wp_evs_cons ?_
    | with_reducible refine wp_evs_nil ?_
    | with_reducible refine wp_tup ?_
    | with_reducible refine wp_and1 ?_
    | with_reducible refine wp_and ?_
    | with_reducible refine wp_or1 ?_
    | with_reducible refine wp_or ?_
    | with_reducible refine wp_boolV1 ?_
    | with_reducible refine wp_boolA ?_
    | with_reducible refine wp_boolO ?_
    | with_reducible refine wp_opt ?_
    | with_reducible refine optQ_int ?_
    | with_reducible refine wp_listD ?_
    | with_reducible refine wp_listL ?_
    | refine ⟨[], rfl, Nat.le_of_ble_eq_true rfl, ?_⟩
    | refine ⟨[_], rfl, Nat.le_of_ble_eq_true rfl, ?_⟩
    | refine ⟨[_, _], rfl, Nat.le_of_ble_eq_true rfl, ?_⟩
    | refine ⟨[_, _, _], rfl, Nat.le_of_ble_eq_true rfl, ?_⟩
    | refine ⟨[_, _, _, _], rfl, Nat.le_of_ble_eq_true rfl, ?_⟩
    | refine ⟨[_, _, _, _, _], rfl, Nat.le_of_ble_eq_true rfl, ?_⟩
    | refine ⟨[_, _, _, _, _, _], rfl, Nat.le_of_ble_eq_true rfl, ?_⟩
    | refine ⟨[_, _, _, _, _, _, _], rfl, Nat.le_of_ble_eq_true rfl, ?_⟩
    | ((with_reducible apply wp_blt); · with_reducible exact len_lst)
    | ((with_reducible apply wp_walkV); · with_reducible exact walk_lst)
    | ((with_reducible apply wp_enum); · with_reducible exact enum_lst)
    | ((with_reducible apply wp_cmp); · with_reducible exact eq_int)
    | ((with_reducible apply wp_cmp); · with_reducible exact ne_int)
    | ((with_reducible apply wp_bin); · with_reducible exact bin_add)
    | ((with_reducible apply wp_bin); · with_reducible exact bin_sub)
    | ((with_reducible apply wp_bin); · with_reducible exact bin_mod (by decide))
    | ((with_reducible apply wp_bin); · with_reducible exact bin_fdiv (by decide) (by decide))
    | ((with_reducible apply wp_bin); · with_reducible exact bin_pow (by decide))
    | ((with_reducible apply wp_cmp); · rfl)
    | ((with_reducible apply wp_truth); · rfl)
    | ((with_reducible apply wp_asBool); · rfl)
    | ((with_reducible apply wp_isi); · rfl)
    | ((with_reducible apply wp_neg); · rfl)
    | ((with_reducible apply wp_asgTup); · rfl)
    | ((with_reducible apply wp_item); · with_reducible exact item_lst (by omega))
    | ((with_reducible apply wp_item); · rfl)
    | ((with_reducible refine wp_condT ?_ ?_); · rfl)
    | ((with_reducible refine wp_condF ?_ ?_); · rfl))
namespace Mp.Q
theorem exc_of_wp {α : Type} {m : M α} {S S' : Store} {e : Xc} (h : wp m S (fun _ _ => False) (fun x S1 => x = e ∧ S1 = S')) : m S = .exc e S' := by
  unfold wp at h
  cases q : m S with
  | ok b S1 => rw [q] at h; exact h.elim
  | exc x S1 => rw [q] at h; obtain ⟨rfl, rfl⟩ := h; rfl
  | stuck => rw [q] at h; exact h.elim
theorem eq_bool {S : Store} {a b : Bool} : cmpOp .Eq (.dat (.bool a)) (.dat (.bool b)) S = .ok (decide (a = b)) S := by
  have e : cmpOp .Eq (.dat (.bool a)) (.dat (.bool b)) S = (if depthOk (.bool a) = true ∧ depthOk (.bool b) = true then Res.ok (PyData.eqv (.bool a) (.bool b)) S else .stuck) := rfl
  rw [e, if_pos ⟨rfl, rfl⟩]
  simp only [PyData.eqv]
  cases a <;> cases b <;> rfl
theorem ne_bool {S : Store} {a b : Bool} : cmpOp .NotEq (.dat (.bool a)) (.dat (.bool b)) S = .ok (!decide (a = b)) S := by
  have e : cmpOp .NotEq (.dat (.bool a)) (.dat (.bool b)) S = (if depthOk (.bool a) = true ∧ depthOk (.bool b) = true then Res.ok (!PyData.eqv (.bool a) (.bool b)) S else .stuck) := rfl
  rw [e, if_pos ⟨rfl, rfl⟩]
  simp only [PyData.eqv]
  cases a <;> cases b <;> rfl
end Mp.Q
namespace K29
/-- what can be judged and told -/
structure Told (v : PyData) : Prop where
  fine : Fine v
  say : sayB v = true
  size : sz v ≤ 1000000
  short : ∀ ds, v = .list ds → ds.length ≤ 900
theorem plain_row (r : Row) : Mp.Q.plain 1 (rowD r) = true := by
  have h := kdS_ok r.2.2
  show (true && (true && (PyData.strOk (kdS r.2.2) && true))) = true
  rw [h]
  rfl
theorem plain_rows (rs : List Row) : Mp.Q.plain 2 (rowsD rs) = true := by
  show plainAll 1 (rs.map rowD) = true
  induction rs with
  | nil => rfl
  | cons r rs ih =>
    show (Mp.Q.plain 1 (rowD r) && plainAll 1 (rs.map rowD)) = true
    rw [plain_row, ih]
    rfl
section
variable {n : Nat} {S : Store}
theorem same_ok {w rs : List Row} (h : sayB (rowsD rs) = true) (hz : sz (rowsD rs) ≤ 1000000) : calls G ds (n + 1) "_law_same" [.dat (rowsD w), .dat (rowsD rs)] S = .ok (.dat (.bool (decide (w = rs)))) S := by
  refine eq_of_wp (c_law_same ?_)
  unfold p_law_same
  repeat fail
  refine wp_cmp (eq_plain (n := 2) (plain_rows w) (plain_rows rs) (by decide)) ?_
  repeat fail
  by_cases e : w = rs
  · subst e
    refine wp_condT (decide_eq_true rfl) ?_
    have hd := depthOk_plain (plain_rows w) (by decide)
    have hs := (say_ok _ h).2.1
    repeat fail
    refine wp_blt (repr_ok h hd hz) ?_
    repeat fail
    refine wp_blt (repr_ok h hd hz) ?_
    repeat fail
    refine wp_cmp (eq_str hs hs) ?_
    repeat fail
    exact ⟨by rw [decide_eq_true rfl, decide_eq_true rfl], List.take_length⟩
  · have ne : ¬ rowsD w = rowsD rs := fun q => e (rowsD_inj q)
    refine wp_condF (decide_eq_false ne) ?_
    repeat fail
    exact ⟨by rw [decide_eq_false ne, decide_eq_false e], List.take_length⟩
theorem says_ok {a b : Bool} : calls G ds (n + 1) "_law_says" [.dat (.bool a), .dat (.bool b)] S = .ok (.dat (.bool (decide (a = b)))) S := by
  refine eq_of_wp (c_law_says ?_)
  unfold p_law_says
  repeat fail
  exact ⟨by simp only [PyData.eqv]; cases a <;> cases b <;> rfl, List.take_length⟩
end
theorem leastB_eq {v : PyData} {a b : Bool} (h1 : LeastB v a) (h2 : LeastB v b) : a = b := by
  cases e : formedB v with
  | false => rw [h1.1 e, h2.1 e]
  | true =>
    cases v with
    | list ds =>
      obtain ⟨rs, rfl, F⟩ := formed_rows e
      have q1 := h1.2 rs rfl F
      have q2 := h2.2 rs rfl F
      have : a = true ↔ b = true := q1.trans q2.symm
      cases a <;> cases b <;> simp at this ⊢
    | _ => cases e
theorem judge_ok (n : Nat) (v : PyData) (S : Store) (hv : Told v) : ∃ b, LeastB v b ∧ calls G ds (n + 3) "_law_judge" [.dat v] S = .ok (.dat (.bool b)) S := by
  have hf := law_formed_ok (n + 1) v S hv.fine hv.short
  have key : wp (calls G ds (n + 3) "_law_judge" [.dat v]) S (fun a S' => (∃ b, LeastB v b ∧ a = .dat (.bool b)) ∧ S' = S) noE := by
    refine c_law_judge ?_
    unfold p_law_judge
    repeat fail
    refine wp_of hf ?_
    cases e : formedB v with
    | false =>
      repeat fail
      exact ⟨⟨false, ⟨fun _ => rfl, fun rs e2 F => by
        subst e2
        obtain ⟨b, hb, _⟩ := is_least_ok n (rowsD rs) S hv.fine hv.short
        have := hb.1 e
        subst this
        exact hb.2 rs rfl F⟩, rfl⟩, List.take_length⟩
    | true =>
      cases v with
      | list ds =>
        obtain ⟨rs, rfl, F⟩ := formed_rows e
        have hN : rs.length ≤ 900 := by have := hv.short _ rfl; simpa using this
        obtain ⟨k', z', P, ord, w, M, hw⟩ := least_ok n rs 0 S F F.ne hN
        obtain ⟨C, hC, _⟩ := refined_ok n rs.length (go rs) (kd rs) S F.ne hN F.lt
        have hs := same_ok (n := n + 1) (S := S) (w := w) (rs := rs) hv.say hv.size
        repeat fail
        refine wp_of hw ?_
        repeat fail
        refine wp_of hs ?_
        repeat fail
        refine ⟨⟨_, ⟨fun q => (by rw [e] at q; cases q), fun rs2 e2 F2 => ?_⟩, rfl⟩, List.take_length⟩
        have : rs = rs2 := rowsD_inj e2
        subst this
        rw [decide_eq_true_iff]
        constructor
        · intro q
          have := M.only q
          exact ⟨this.1, this.2.1, C, hC, this.2.2 C hC⟩
        · rintro ⟨h1, h2, C, hC, hI⟩
          exact M.back h1 h2 hC hI
      | _ => cases e
  obtain ⟨a, S', h1, ⟨b, h2, rfl⟩, rfl⟩ := ex_of_wp key
  exact ⟨b, h2, h1⟩
section
variable {n : Nat} {S : Store}
theorem check_T {v : PyData} (h : calls G ds n "is_least" [.dat v] S = .ok (.dat (.bool true)) S) : calls G ds (n + 1) "check_acceptor" [.dat v] S = .ok (.dat .none) S := by
  refine eq_of_wp (c_check_acceptor ?_)
  unfold p_check_acceptor
  repeat fail
  refine wp_of h ?_
  repeat fail
  exact ⟨rfl, List.take_length⟩
theorem check_F {v : PyData} (h : calls G ds n "is_least" [.dat v] S = .ok (.dat (.bool false)) S) : calls G ds (n + 1) "check_acceptor" [.dat v] S = .exc ⟨"InvalidAcceptor", none⟩ S := by
  refine exc_of_wp (c_check_acceptor ?_)
  unfold p_check_acceptor
  repeat fail
  refine wp_of h ?_
  repeat fail
  exact ⟨rfl, List.take_length⟩
theorem chars_0 : (("0" : Str).cps.toList.map fun c => W.dat (.str ⟨#[c]⟩)) = (List.range 1).map fun _ => W.dat (.str "0") := by
  have h2 : (("0" : Str).cps.toList.map fun c => (⟨#[c]⟩ : Str)) = [("0" : Str)] := by decide +kernel
  have := congrArg (fun l : List Str => l.map fun x => W.dat (.str x)) h2
  rw [List.map_map] at this
  exact this
theorem walk_0 : walkV (.dat (.str "0")) S = .ok (.list ((List.range 1).map fun _ => .dat (.str "0"))) S := by
  have e : walkV (.dat (.str "0")) S = (if roomy ("0" : Str).length = true then .ok (.list (("0" : Str).cps.toList.map fun c => .dat (.str ⟨#[c]⟩))) S else .stuck) := rfl
  rw [e, if_pos (by decide +kernel), chars_0]
theorem in_01 : cmpOp .In (.dat (.str "0")) (.dat (.str "01")) S = .ok true S := by
  have e : cmpOp .In (.dat (.str "0")) (.dat (.str "01")) S = .ok (!(Builtin.Str.occurrences ("01" : Str) ("0" : Str) 0 ("01" : Str).length 1).isEmpty) S := rfl
  rw [e, show (!(Builtin.Str.occurrences ("01" : Str) ("0" : Str) 0 ("01" : Str).length 1).isEmpty) = true by decide +kernel]
theorem int_0 {l : Bool} : blt l "int" [.dat (.str "0")] S = .ok (.dat (nD 0)) S := by
  have h : PySem.intText? ("0" : Str) = some 0 := by decide +kernel
  have hl : ("0" : Str).length ≤ 640 := by decide +kernel
  have e : blt l "int" [.dat (.str "0")] S = (match PySem.intText? ("0" : Str) with
    | some i => if ("0" : Str).length ≤ 640 then .ok (.dat (.int i)) S else .stuck
    | none => .stuck) := rfl
  rw [e, h]
  exact if_pos hl
theorem char_0 : itemOf (.dat (.str "0")) (.dat (nD 0)) S = .ok (.dat (.str "0")) S := by
  have e : itemOf (.dat (.str "0")) (.dat (nD 0)) S = (if roomy ("0" : Str).length = true then (match L2.atI ("0" : Str).cps.toList 0 with
        | some c => .ok (.dat (.str ⟨#[c]⟩)) S
        | none => .stuck) else .stuck) := rfl
  have h : (L2.atI ("0" : Str).cps.toList 0).map (fun c => (⟨#[c]⟩ : Str)) = some ("0" : Str) := by decide +kernel
  rw [e, if_pos (by decide +kernel)]
  cases q : L2.atI ("0" : Str).cps.toList 0 with
  | none => rw [q] at h; cases h
  | some c =>
    rw [q] at h
    have h := Option.some.inj h
    show Res.ok (W.dat (.str ⟨#[c]⟩)) S = _
    rw [show (⟨#[c]⟩ : Str) = "0" from h]
theorem len_0 {l : Bool} : blt l "len" [.dat (.str "0")] S = .ok (.dat (nD 1)) S := by
  have e : blt l "len" [.dat (.str "0")] S = (if roomy ("0" : Str).length = true then .ok (.dat (.int (("0" : Str).length : Nat))) S else .stuck) := rfl
  rw [e, if_pos (by decide +kernel), show ("0" : Str).length = 1 by decide +kernel]
theorem bits_ok : calls G ds (n + 2) "check_bits" [.dat (.str "0")] S = .ok (.dat .none) S := by
  refine eq_of_wp (c_check_bits ?_)
  unfold p_check_bits
  repeat fail
  refine wp_of (a := W.dat (.bool true)) (S' := S) ?_ ?_
  · refine eq_of_wp (c_is_bits ?_)
    unfold p_is_bits
    repeat fail
    refine wp_walkV walk_0 ?_
    repeat fail
    refine wp_compA (fun _ => .dat (.bool true)) (by omega) (fun i hi => ?_) ?_
    · repeat fail
      exact ⟨congrArg (fun b => W.dat (.bool b)) (by decide +kernel), rfl⟩
    refine wp_newList (new_lst fun i _ => rfl) ?_
    repeat fail
    refine wp_blt (w := .dat (.bool true)) rfl ?_
    repeat fail
    exact ⟨rfl, List.take_length⟩
  repeat fail
  exact ⟨rfl, List.take_length⟩
end
end K29
local macro_rules
  | `(tactic| fail) => `(tactic| ((with_reducible apply wp_item); · with_reducible exact K29.char_0))
namespace K29
section
variable {n : Nat} {S : Store}
theorem row_get {rs : List Row} {i : Nat} (h : i < rs.length) : (rs.map rowD)[i]? = some (.tuple [nD (go rs i false), nD (go rs i true), kdD (kd rs i)]) := by
  rw [List.getElem?_map, rowAt_eq h]
  rfl
theorem read_ok {rs : List Row} (F : Formed rs) : ∃ d, d ≠ PyData.none ∧ calls G ds (n + 1) "read_answer" [.dat (rowsD rs), .dat (.str "0")] S = .ok (.dat d) S := by
  have key : wp (calls G ds (n + 1) "read_answer" [.dat (rowsD rs), .dat (.str "0")]) S (fun a S' => (∃ d, d ≠ PyData.none ∧ a = .dat d) ∧ S' = S) noE := by
    refine c_read_answer ?_
    unfold p_read_answer
    repeat fail
    refine wp_while (fun q g S2 => ∃ (s i : Nat), s < rs.length ∧ q + i = 1 ∧ g = [some (.dat (.list (rs.map rowD))), some (.dat (.str "0")), some (.dat (nD s)), some (.dat (nD i))] ∧ S2 = S) ?_ _ 1 _ _ (by simp [whileFuel]) ⟨0, 0, F.ne, rfl, rfl, rfl⟩
    rintro q g S2 ⟨s, i, hs, hq, rfl, rfl⟩
    repeat fail
    refine wp_item (item_listN (row_get hs)) ?_
    repeat fail
    refine wp_cmp eq_op ?_
    repeat fail
    refine wp_cond (fun ho => ?_) fun ho => ?_
    · repeat fail
      refine wp_blt len_0 ?_
      repeat fail
      refine ⟨fun h => ?_, fun h => ?_⟩
      · have hi : i = 0 := by have := of_decide_eq_true h; omega
        subst hi
        repeat fail
        refine wp_item (item_listN (row_get hs)) ?_
        repeat fail
        refine wp_blt int_0 ?_
        repeat fail
        refine wp_aug (a := 0) rfl ?_
        repeat fail
        refine ⟨1, rfl, ?_⟩
        repeat fail
        exact ⟨0, by omega, go rs s false, 1, F.lt s false hs, rfl, rfl, rfl⟩
      · repeat fail
        refine wp_item (item_listN (row_get hs)) ?_
        repeat fail
        refine wp_cmp eq_op ?_
        repeat fail
        refine wp_cond (fun ho => ?_) fun ho => ?_
        · repeat fail
          exact ⟨⟨_, (by intro q; cases q), rfl⟩, List.take_length⟩
        · repeat fail
          refine wp_item (item_listN (row_get hs)) ?_
          repeat fail
          exact ⟨⟨_, (by intro q; cases q), rfl⟩, List.take_length⟩
    · repeat fail
      refine ⟨fun h => (by cases h), fun _ => ?_⟩
      repeat fail
      refine wp_item (item_listN (row_get hs)) ?_
      repeat fail
      refine wp_cmp eq_op ?_
      repeat fail
      refine wp_condF ho ?_
      repeat fail
      refine wp_item (item_listN (row_get hs)) ?_
      repeat fail
      exact ⟨⟨_, (by intro q; cases q), rfl⟩, List.take_length⟩
  obtain ⟨a, S', h1, ⟨d, h2, rfl⟩, rfl⟩ := ex_of_wp key
  exact ⟨d, h2, h1⟩
end
end K29
end

section
set_option Elab.async false
set_option linter.all false
set_option maxRecDepth 100000
set_option maxHeartbeats 1000000
set_option autoImplicit false
/-! KL13: right. -/
open PySem L2 Mp Mp.Q KM
local macro_rules
  | `(tactic| fail) => `(tactic| first
    | with_reducible refine wp_nxS ?_
    | with_reducible refine wp_rtS ?_
    | with_reducible refine wp_bkS ?_
    | with_reducible refine wp_ctS ?_
    | with_reducible refine wp_xcS ?_
    | with_reducible refine wp_nxF ?_
    | with_reducible refine wp_ctF ?_
    | with_reducible refine wp_bkF ?_
    | with_reducible refine wp_rtF ?_
    | with_reducible refine wp_xcF ?_
    | with_reducible refine wp_nxD ?_
    | with_reducible refine wp_rtD ?_
    | with_reducible refine wp_rtC ?_
    | with_reducible refine wp_rtO ?_
    | with_reducible refine wp_xcD ?_
    | with_reducible refine wp_ret ?_
    | with_reducible refine wp_seq ?_
    | with_reducible refine wp_bndE ?_
    | with_reducible refine wp_bnd ?_
    | ((with_reducible apply wp_getS); · rfl)
    | with_reducible refine wp_evs_cons ?_
    | with_reducible refine wp_evs_nil ?_
    | with_reducible refine wp_tup ?_
    | with_reducible refine wp_and1 ?_
    | with_reducible refine wp_and ?_
    | with_reducible refine wp_or1 ?_
    | with_reducible refine wp_or ?_
    | with_reducible refine wp_boolV1 ?_
    | with_reducible refine wp_boolA ?_
    | with_reducible refine wp_boolO ?_
    | with_reducible refine wp_opt ?_
    | with_reducible refine optQ_int ?_
    | with_reducible refine wp_listD ?_
    | with_reducible refine wp_listL ?_
    | refine ⟨[], rfl, Nat.le_of_ble_eq_true rfl, ?_⟩
    | refine ⟨[_], rfl, Nat.le_of_ble_eq_true rfl, ?_⟩
    | refine ⟨[_, _], rfl, Nat.le_of_ble_eq_true rfl, ?_⟩
    | refine ⟨[_, _, _], rfl, Nat.le_of_ble_eq_true rfl, ?_⟩
    | refine ⟨[_, _, _, _], rfl, Nat.le_of_ble_eq_true rfl, ?_⟩
    | refine ⟨[_, _, _, _, _], rfl, Nat.le_of_ble_eq_true rfl, ?_⟩
    | refine ⟨[_, _, _, _, _, _], rfl, Nat.le_of_ble_eq_true rfl, ?_⟩
    | refine ⟨[_, _, _, _, _, _, _], rfl, Nat.le_of_ble_eq_true rfl, ?_⟩
    | ((with_reducible apply wp_blt); · with_reducible exact len_lst)
    | ((with_reducible apply wp_walkV); · with_reducible exact walk_lst)
    | ((with_reducible apply wp_enum); · with_reducible exact enum_lst)
    | ((with_reducible apply wp_cmp); · with_reducible exact eq_int)
    | ((with_reducible apply wp_cmp); · with_reducible exact ne_int)
    | ((with_reducible apply wp_bin); · with_reducible exact bin_add)
    | ((with_reducible apply wp_bin); · with_reducible exact bin_sub)
    | ((with_reducible apply wp_bin); · with_reducible exact bin_mod (by decide))
    | ((with_reducible apply wp_bin); · with_reducible exact bin_fdiv (by decide) (by decide))
    | ((with_reducible apply wp_bin); · with_reducible exact bin_pow (by decide))
    | ((with_reducible apply wp_cmp); · rfl)
    | ((with_reducible apply wp_truth); · rfl)
    | ((with_reducible apply wp_asBool); · rfl)
    | ((with_reducible apply wp_isi); · rfl)
    | ((with_reducible apply wp_neg); · rfl)
    | ((with_reducible apply wp_asgTup); · rfl)
    | ((with_reducible apply wp_item); · with_reducible exact item_lst (by omega))
    | ((with_reducible apply wp_item); · rfl)
    | ((with_reducible refine wp_condT ?_ ?_); · rfl)
    | ((with_reducible refine wp_condF ?_ ?_); · rfl))
namespace Mp.Q
theorem wp_try_nx {G : Glob} {x : Str} {s : Slots → Fl} {g : Slots} {S : Store} {Q : Fl → Store → Prop} {E : Xc → Store → Prop} (h : wp (ret (.nx g)) S Q E) : wp (tryM G x s (.nx g)) S Q E := h
theorem wp_try_xc {G : Glob} {x : Str} {s : Slots → Fl} {e : Xc} {g g' : Slots} {S : Store} {Q : Fl → Store → Prop} {E : Xc → Store → Prop} (hs : G.sub e.cls x = some true) (he : s g = .nx g') (h : wp (ret (.nx g')) S Q E) : wp (tryM G x s (.xc e g)) S Q E := by
  have : tryM G x s (.xc e g) = ret (.nx g') := by
    unfold tryM
    simp only [hs]
    rw [he]
    rfl
  rw [this]
  exact h
end Mp.Q
namespace K29
section
variable {n : Nat} {S : Store}
theorem refused_T {v d : PyData} (hd : d ≠ .none) (h : calls G ds n "acceptor_read" [.dat v, .dat (.str "0")] S = .ok (.dat d) S) : calls G ds (n + 1) "_law_refused" [.dat v] S = .ok (.dat (.bool false)) S := by
  refine eq_of_wp (c_law_refused ?_)
  unfold p_law_refused
  repeat fail
  refine wp_of h ?_
  repeat fail
  refine wp_try_nx ?_
  repeat fail
  exact ⟨by cases d <;> first | rfl | exact absurd rfl hd, List.take_length⟩
theorem refused_F {v : PyData} (h : calls G ds n "acceptor_read" [.dat v, .dat (.str "0")] S = .exc ⟨"InvalidAcceptor", none⟩ S) : calls G ds (n + 1) "_law_refused" [.dat v] S = .ok (.dat (.bool true)) S := by
  refine eq_of_wp (c_law_refused ?_)
  unfold p_law_refused
  repeat fail
  refine wp_exc h (wp_of_ret (E := noE) ?_)
  repeat fail
  refine wp_try_xc rfl rfl ?_
  repeat fail
  exact ⟨rfl, List.take_length⟩
theorem acc_F {v : PyData} (h : calls G ds n "is_least" [.dat v] S = .ok (.dat (.bool false)) S) : calls G ds (n + 2) "acceptor_read" [.dat v, .dat (.str "0")] S = .exc ⟨"InvalidAcceptor", none⟩ S := by
  refine exc_of_wp (c_acceptor_read ?_)
  unfold p_acceptor_read
  repeat fail
  refine wp_exc (check_F h) (wp_of_ret (E := noE) ?_)
  repeat fail
  exact ⟨rfl, List.take_length⟩
theorem acc_T {rs : List Row} (F : Formed rs) (h : calls G ds (n + 1) "is_least" [.dat (rowsD rs)] S = .ok (.dat (.bool true)) S) : ∃ d, d ≠ PyData.none ∧ calls G ds (n + 3) "acceptor_read" [.dat (rowsD rs), .dat (.str "0")] S = .ok (.dat d) S := by
  obtain ⟨d, hd, hr⟩ := read_ok (n := n + 1) (S := S) F
  refine ⟨d, hd, eq_of_wp (c_acceptor_read ?_)⟩
  unfold p_acceptor_read
  repeat fail
  refine wp_of (check_T h) ?_
  repeat fail
  refine wp_of bits_ok ?_
  repeat fail
  refine wp_of hr ?_
  repeat fail
  exact ⟨rfl, List.take_length⟩
end
theorem right_ok (n : Nat) (v : PyData) (S : Store) (hv : Told v) : calls G ds (n + 8) "_law_right" [.dat v] S = .ok (.dat (.bool true)) S := by
  obtain ⟨b, hb, hj⟩ := judge_ok (n + 4) v S hv
  obtain ⟨b1, h1, c1⟩ := is_least_ok (n + 3) v S hv.fine hv.short
  obtain ⟨b2, h2, c2⟩ := is_least_ok n v S hv.fine hv.short
  have e1 := leastB_eq h1 hb
  have e2 := leastB_eq h2 hb
  subst e1
  subst e2
  have hr : calls G ds (n + 7) "_law_refused" [.dat v] S = .ok (.dat (.bool (!b2))) S := by
    cases e : b2 with
    | false => subst e; exact refused_F (n := n + 6) (acc_F (n := n + 4) c2)
    | true =>
      subst e
      cases ef : formedB v with
      | false => have := h2.1 ef; cases this
      | true =>
        cases v with
        | list ds =>
          obtain ⟨rs, rfl, F⟩ := formed_rows ef
          obtain ⟨d, hd, hc⟩ := acc_T (n := n + 3) F c2
          exact refused_T hd hc
        | _ => cases ef
  have hd := hv.fine.ok
  have hs := (say_ok _ hv.say).2.1
  refine eq_of_wp (c_law_right ?_)
  unfold p_law_right
  repeat fail
  refine wp_of hj ?_
  repeat fail
  refine wp_blt (repr_ok hv.say hd hv.size) ?_
  repeat fail
  refine wp_of c1 ?_
  repeat fail
  refine wp_of says_ok ?_
  repeat fail
  refine wp_condF (by simp) ?_
  repeat fail
  refine wp_of c1 ?_
  repeat fail
  refine wp_of says_ok ?_
  repeat fail
  refine wp_condF (by simp) ?_
  repeat fail
  refine wp_blt (repr_ok hv.say hd hv.size) ?_
  repeat fail
  refine wp_cmp (eq_str hs hs) ?_
  repeat fail
  refine wp_condT (by simp) ?_
  repeat fail
  refine wp_of hr ?_
  repeat fail
  refine wp_condT (by cases b2 <;> simp [PyData.eqv]) ?_
  repeat fail
  refine wp_blt (repr_ok hv.say hd hv.size) ?_
  repeat fail
  refine wp_cmp (eq_str hs hs) ?_
  repeat fail
  exact ⟨by simp, List.take_length⟩
end K29
end

section
set_option Elab.async false
set_option linter.all false
set_option maxRecDepth 100000
set_option maxHeartbeats 1000000
set_option autoImplicit false
/-! KL14: take, drops. -/
open PySem L2 Mp Mp.Q KM
local macro_rules
  | `(tactic| fail) => `(tactic| first
    | with_reducible refine wp_nxS ?_
    | with_reducible refine wp_rtS ?_
    | with_reducible refine wp_bkS ?_
    | with_reducible refine wp_ctS ?_
    | with_reducible refine wp_xcS ?_
    | with_reducible refine wp_nxF ?_
    | with_reducible refine wp_ctF ?_
    | with_reducible refine wp_bkF ?_
    | with_reducible refine wp_rtF ?_
    | with_reducible refine wp_xcF ?_
    | with_reducible refine wp_nxD ?_
    | with_reducible refine wp_rtD ?_
    | with_reducible refine wp_rtC ?_
    | with_reducible refine wp_rtO ?_
    | with_reducible refine wp_xcD ?_
    | with_reducible refine wp_ret ?_
    | with_reducible refine wp_seq ?_
    | with_reducible refine wp_bndE ?_
    | with_reducible refine wp_bnd ?_
    | ((with_reducible apply wp_getS); · rfl)
    | with_reducible refine wp_evs_cons ?_
    | with_reducible refine wp_evs_nil ?_
    | with_reducible refine wp_tup ?_
    | with_reducible refine wp_and1 ?_
    | with_reducible refine wp_and ?_
    | with_reducible refine wp_or1 ?_
    | with_reducible refine wp_or ?_
    | with_reducible refine wp_boolV1 ?_
    | with_reducible refine wp_boolA ?_
    | with_reducible refine wp_boolO ?_
    | with_reducible refine wp_opt ?_
    | with_reducible refine optQ_int ?_
    | with_reducible refine wp_listD ?_
    | with_reducible refine wp_listL ?_
    | refine ⟨[], rfl, Nat.le_of_ble_eq_true rfl, ?_⟩
    | refine ⟨[_], rfl, Nat.le_of_ble_eq_true rfl, ?_⟩
    | refine ⟨[_, _], rfl, Nat.le_of_ble_eq_true rfl, ?_⟩
    | refine ⟨[_, _, _], rfl, Nat.le_of_ble_eq_true rfl, ?_⟩
    | refine ⟨[_, _, _, _], rfl, Nat.le_of_ble_eq_true rfl, ?_⟩
    | refine ⟨[_, _, _, _, _], rfl, Nat.le_of_ble_eq_true rfl, ?_⟩
    | refine ⟨[_, _, _, _, _, _], rfl, Nat.le_of_ble_eq_true rfl, ?_⟩
    | refine ⟨[_, _, _, _, _, _, _], rfl, Nat.le_of_ble_eq_true rfl, ?_⟩
    | ((with_reducible apply wp_blt); · with_reducible exact len_lst)
    | ((with_reducible apply wp_walkV); · with_reducible exact walk_lst)
    | ((with_reducible apply wp_enum); · with_reducible exact enum_lst)
    | ((with_reducible apply wp_cmp); · with_reducible exact eq_int)
    | ((with_reducible apply wp_cmp); · with_reducible exact ne_int)
    | ((with_reducible apply wp_bin); · with_reducible exact bin_add)
    | ((with_reducible apply wp_bin); · with_reducible exact bin_sub)
    | ((with_reducible apply wp_bin); · with_reducible exact bin_mod (by decide))
    | ((with_reducible apply wp_bin); · with_reducible exact bin_fdiv (by decide) (by decide))
    | ((with_reducible apply wp_bin); · with_reducible exact bin_pow (by decide))
    | ((with_reducible apply wp_cmp); · rfl)
    | ((with_reducible apply wp_truth); · rfl)
    | ((with_reducible apply wp_asBool); · rfl)
    | ((with_reducible apply wp_isi); · rfl)
    | ((with_reducible apply wp_neg); · rfl)
    | ((with_reducible apply wp_asgTup); · rfl)
    | ((with_reducible apply wp_item); · with_reducible exact item_lst (by omega))
    | ((with_reducible apply wp_item); · rfl)
    | ((with_reducible refine wp_condT ?_ ?_); · rfl)
    | ((with_reducible refine wp_condF ?_ ?_); · rfl))
namespace Mp.Q
section
variable {S : Store} {l : Bool} {i j : Int}
theorem int_int : blt l "int" [.dat (.int i)] S = .ok (.dat (.int i)) S := rfl
theorem int_bool {b : Bool} : blt l "int" [.dat (.bool b)] S = .ok (.dat (.int (if b then 1 else 0))) S := rfl
theorem abs_int : blt l "abs" [.dat (.int i)] S = .ok (.dat (.int (if i < 0 then -i else i))) S := rfl
abbrev iW (xs : List Int) : List W := xs.map fun i => W.dat (.int i)
end
end Mp.Q
local macro_rules
  | `(tactic| fail) => `(tactic| first
    | ((with_reducible apply wp_blt); · with_reducible exact int_int)
    | ((with_reducible apply wp_blt); · with_reducible exact int_bool)
    | ((with_reducible apply wp_blt); · with_reducible exact abs_int))
namespace K29
theorem take_ok (n k h many : Nat) (xs : List Int) (S : Store) (hS : S[k]? = some (some (.lst (iW ((h : Int) :: xs))))) (hx : 0 < xs.length) (hn : xs.length < 1000000) (hm : 0 < many) :
    ∃ r : Nat, r < many ∧ calls G ds (n + 1) "_law_take" [.obj k, .dat (nD many)] S = .ok (.dat (nD r)) (S.set k (some (.lst (iW (((h + 1 : Nat) : Int) :: xs))))) := by
  have hk : k < S.length := (List.getElem?_eq_some_iff.mp hS).1
  have key : wp (calls G ds (n + 1) "_law_take" [.obj k, .dat (nD many)]) S (fun a S' => (∃ r : Nat, r < many ∧ a = .dat (nD r)) ∧ S' = S.set k (some (.lst (iW (((h + 1 : Nat) : Int) :: xs))))) noE := by
    refine c_law_take ?_
    unfold p_law_take
    repeat fail
    refine wp_item (item_obj hS (by omega) rfl) ?_
    repeat fail
    refine wp_setItem (set_obj hS (by omega) (by simp)) ?_
    have hS1 : (S.set k (some (.lst (iW (((h + 1 : Nat) : Int) :: xs)))))[k]? = some (some (.lst (iW (((h + 1 : Nat) : Int) :: xs)))) := List.getElem?_set_self hk
    have es : (iW ((h : Int) :: xs)).set (0 : Int).toNat (W.dat (.int ((h : Int) + 1))) = iW (((h + 1 : Nat) : Int) :: xs) := rfl
    rw [es]
    have hl : (S.set k (some (.lst (iW (((h + 1 : Nat) : Int) :: xs))))).length = S.length := List.length_set
    generalize S.set k (some (.lst (iW (((h + 1 : Nat) : Int) :: xs)))) = S1 at hS1 hl
    repeat fail
    refine wp_blt (len_obj hS1) ?_
    repeat fail
    have hL : ((iW (((h + 1 : Nat) : Int) :: xs)).length : Int) - 1 = (xs.length : Int) := by simp
    rw [hL]
    refine wp_bin (bin_mod (by omega)) ?_
    repeat fail
    have hj0 : 0 ≤ (h : Int).fmod (xs.length : Nat) := Int.fmod_nonneg_of_pos _ (by omega)
    have hj1 : (h : Int).fmod (xs.length : Nat) < (xs.length : Nat) := Int.fmod_lt_of_pos _ (by omega)
    refine wp_item (item_obj hS1 (by omega) (w := .dat (.int (xs.getD ((h : Int).fmod (xs.length : Nat)).toNat 0))) ?_) ?_
    · have e1 : (1 + (h : Int).fmod (xs.length : Nat)).toNat = ((h : Int).fmod (xs.length : Nat)).toNat + 1 := by omega
      have e2 : ((h : Int).fmod (xs.length : Nat)).toNat < xs.length := by omega
      rw [e1, List.getElem?_map, List.getElem?_cons_succ, List.getD_eq_getElem?_getD, List.getElem?_eq_getElem e2]
      rfl
    repeat fail
    refine wp_blt (len_obj hS1) ?_
    repeat fail
    rw [hL]
    refine wp_bin (bin_fdiv (by omega) (by omega)) ?_
    repeat fail
    refine wp_bin (bin_mul (mulOk_r (by decide) (by decide))) ?_
    repeat fail
    refine wp_bin (bin_mod (by omega)) ?_
    repeat fail
    generalize (xs.getD ((h : Int).fmod (xs.length : Nat)).toNat 0 + (h : Int).fdiv (xs.length : Nat) * 7) = q
    have r0 : 0 ≤ q.fmod (many : Int) := Int.fmod_nonneg_of_pos _ (by omega)
    have r1 : q.fmod (many : Int) < many := Int.fmod_lt_of_pos _ (by omega)
    refine ⟨⟨(q.fmod (many : Int)).toNat, by omega, ?_⟩, by rw [← hl]; exact List.take_length⟩
    show W.dat (.int _) = W.dat (.int (((q.fmod (many : Int)).toNat : Nat) : Int))
    rw [Int.toNat_of_nonneg r0]
  obtain ⟨a, S', h1, ⟨r, h2, rfl⟩, rfl⟩ := ex_of_wp key
  exact ⟨r, h2, h1⟩
end K29
end

section
set_option Elab.async false
set_option linter.all false
set_option maxRecDepth 100000
set_option maxHeartbeats 1000000
set_option autoImplicit false
/-! KL15: drops. -/
open PySem L2 Mp Mp.Q KM
local macro_rules
  | `(tactic| fail) => `(tactic| first
    | with_reducible refine wp_nxS ?_
    | with_reducible refine wp_rtS ?_
    | with_reducible refine wp_bkS ?_
    | with_reducible refine wp_ctS ?_
    | with_reducible refine wp_xcS ?_
    | with_reducible refine wp_nxF ?_
    | with_reducible refine wp_ctF ?_
    | with_reducible refine wp_bkF ?_
    | with_reducible refine wp_rtF ?_
    | with_reducible refine wp_xcF ?_
    | with_reducible refine wp_nxD ?_
    | with_reducible refine wp_rtD ?_
    | with_reducible refine wp_rtC ?_
    | with_reducible refine wp_rtO ?_
    | with_reducible refine wp_xcD ?_
    | with_reducible refine wp_ret ?_
    | with_reducible refine wp_seq ?_
    | with_reducible refine wp_bndE ?_
    | with_reducible refine wp_bnd ?_
    | ((with_reducible apply wp_getS); · rfl)
    | with_reducible refine wp_evs_cons ?_
    | with_reducible refine wp_evs_nil ?_
    | with_reducible refine wp_tup ?_
    | with_reducible refine wp_and1 ?_
    | with_reducible refine wp_and ?_
    | with_reducible refine wp_or1 ?_
    | with_reducible refine wp_or ?_
    | with_reducible refine wp_boolV1 ?_
    | with_reducible refine wp_boolA ?_
    | with_reducible refine wp_boolO ?_
    | with_reducible refine wp_opt ?_
    | with_reducible refine optQ_int ?_
    | with_reducible refine wp_listD ?_
    | with_reducible refine wp_listL ?_
    | refine ⟨[], rfl, Nat.le_of_ble_eq_true rfl, ?_⟩
    | refine ⟨[_], rfl, Nat.le_of_ble_eq_true rfl, ?_⟩
    | refine ⟨[_, _], rfl, Nat.le_of_ble_eq_true rfl, ?_⟩
    | refine ⟨[_, _, _], rfl, Nat.le_of_ble_eq_true rfl, ?_⟩
    | refine ⟨[_, _, _, _], rfl, Nat.le_of_ble_eq_true rfl, ?_⟩
    | refine ⟨[_, _, _, _, _], rfl, Nat.le_of_ble_eq_true rfl, ?_⟩
    | refine ⟨[_, _, _, _, _, _], rfl, Nat.le_of_ble_eq_true rfl, ?_⟩
    | refine ⟨[_, _, _, _, _, _, _], rfl, Nat.le_of_ble_eq_true rfl, ?_⟩
    | ((with_reducible apply wp_blt); · with_reducible exact len_lst)
    | ((with_reducible apply wp_walkV); · with_reducible exact walk_lst)
    | ((with_reducible apply wp_enum); · with_reducible exact enum_lst)
    | ((with_reducible apply wp_cmp); · with_reducible exact eq_int)
    | ((with_reducible apply wp_cmp); · with_reducible exact ne_int)
    | ((with_reducible apply wp_bin); · with_reducible exact bin_add)
    | ((with_reducible apply wp_bin); · with_reducible exact bin_sub)
    | ((with_reducible apply wp_bin); · with_reducible exact bin_mod (by decide))
    | ((with_reducible apply wp_bin); · with_reducible exact bin_fdiv (by decide) (by decide))
    | ((with_reducible apply wp_bin); · with_reducible exact bin_pow (by decide))
    | ((with_reducible apply wp_cmp); · rfl)
    | ((with_reducible apply wp_truth); · rfl)
    | ((with_reducible apply wp_asBool); · rfl)
    | ((with_reducible apply wp_isi); · rfl)
    | ((with_reducible apply wp_neg); · rfl)
    | ((with_reducible apply wp_asgTup); · rfl)
    | ((with_reducible apply wp_item); · with_reducible exact item_lst (by omega))
    | ((with_reducible apply wp_item); · rfl)
    | ((with_reducible refine wp_condT ?_ ?_); · rfl)
    | ((with_reducible refine wp_condF ?_ ?_); · rfl))
local macro_rules
  | `(tactic| fail) => `(tactic| first
    | ((with_reducible apply wp_blt); · with_reducible exact int_int)
    | ((with_reducible apply wp_blt); · with_reducible exact int_bool)
    | ((with_reducible apply wp_blt); · with_reducible exact abs_int))
namespace K29
theorem allDat_i (xs : List Int) : allDat (iW xs) = some (xs.map PyData.int) := by
  have := allDat_map (xs.map PyData.int)
  rwa [List.map_map] at this
theorem drops_ok (n : Nat) (ci : Int) (S : Store) : ∃ xs : List Int, xs.length = 50 ∧ calls G ds (n + 1) "_law_drops" [.dat (.int ci), .dat (nD 50)] S = .ok (.dat (.list (xs.map PyData.int))) S := by
  have key : wp (calls G ds (n + 1) "_law_drops" [.dat (.int ci), .dat (nD 50)]) S (fun a S' => (∃ xs : List Int, xs.length = 50 ∧ a = .dat (.list (xs.map PyData.int))) ∧ S' = S) noE := by
    refine c_law_drops ?_
    unfold p_law_drops
    repeat fail
    refine ⟨Nat.le_of_ble_eq_true rfl, rfl, ?_⟩
    repeat fail
    have rest : ∀ dig : Int, wp (ret (.nx [some (.dat (.int ci)), some (.dat (nD 50)), some (.obj S.length), some (.dat (.int dig)), none, none])) (S ++ [some (.lst (iW []))]) (seqQ (fun g =>
  seqM (bndE g (bnd (bnd (bnd (evsM [getS g 0]) fun ws => blt false "int" ws) fun x => bnd (ret (.dat (.int 2147483629))) fun y => binOp false .Mod x y) fun x => bnd (ret (.dat (.int 11))) fun y => binOp false .Add x y) fun w => ret (.nx (List.set g 4 (some w)))) fun g =>
  seqM (bndE g (bnd (getS g 1) rangeM) fun r => forW (fun w g => ret (List.set g 5 (some w))) (fun g => seqM (bndE g (bnd (bnd (getS g 3) fun x => bnd (ret (.dat (.int 0))) fun y => bnd (cmpOp .Gt x y) fun k => ret (.dat (.bool k))) asBoolM) fun k => cond k (seqM (bndE g (bnd (getS g 2) fun x => bnd (recv "append" x) fun _ => bnd (evsM [bnd (bnd (evsM [getS g 3]) fun ws => blt false "int" ws) fun x => bnd (ret (.dat (.int 27720))) fun y => binOp false .Mod x y]) fun ws => method x "append" ws) fun _ => ret (.nx g)) fun g =>
      seqM (bndE g (bnd (getS g 3) fun x => bnd (ret (.dat (.int 27720))) fun y => binOp false .FloorDiv x y) fun w => ret (.nx (List.set g 3 (some w)))) fun g =>
      ret (.nx g)) (seqM (bndE g (bnd (bnd (evsM [bnd (bnd (bnd (bnd (getS g 4) fun x => bnd (ret (.dat (.int 16807))) fun y => binOp false .Mult x y) fun x => bnd (getS g 0) fun y => binOp false .Add x y) fun x => bnd (bnd (bnd (bnd (ret (.dat (.int 9))) fun x => bnd (getS g 5) fun y => binOp false .Mult x y) fun x => bnd (getS g 5) fun y => binOp false .Mult x y) fun x => bnd (getS g 5) fun y => binOp false .Mult x y) fun y => binOp false .Add x y) fun x => bnd (ret (.dat (.int 5))) fun y => binOp false .Add x y]) fun ws => blt false "int" ws) fun x => bnd (ret (.dat (.int 2147483647))) fun y => binOp false .Mod x y) fun w => ret (.nx (List.set g 4 (some w)))) fun g =>
      seqM (bndE g (bnd (getS g 2) fun x => bnd (recv "append" x) fun _ => bnd (evsM [bnd (bnd (bnd (bnd (evsM [bnd (getS g 4) fun x => bnd (bnd (bnd (getS g 4) fun x => bnd (ret (.dat (.int 16))) fun y => binOp false .FloorDiv x y) fun x => bnd (ret (.dat (.int 3))) fun y => binOp false .Add x y) fun y => binOp false .Mult x y]) fun ws => blt false "int" ws) fun x => bnd (ret (.dat (.int 2147483587))) fun y => binOp false .Mod x y) fun x => bnd (ret (.dat (.int 5))) fun y => binOp false .FloorDiv x y) fun x => bnd (ret (.dat (.int 27720))) fun y => binOp false .Mod x y]) fun ws => method x "append" ws) fun _ => ret (.nx g)) fun g =>
      ret (.nx g))) fun g =>
    ret (.nx g)) r walkFuel 0 g) fun g =>
  seqM (bndE g (getS g 2) fun w => ret (.rt w)) fun g =>
  ret (.nx g)) (finQ S.length (fun a S' => (∃ xs : List Int, xs.length = 50 ∧ a = .dat (.list (xs.map PyData.int))) ∧ S' = S) noE) noE) noE := by
      intro dig
      repeat fail
      refine wp_range (range_okN (n := 50) (by omega)) ?_
      refine wp_for (fun t g S2 => ∃ (xs : List Int) (dig stir : Int) (x5 : Option W), xs.length = t ∧ g = [some (.dat (.int ci)), some (.dat (nD 50)), some (.obj S.length), some (.dat (.int dig)), some (.dat (.int stir)), x5] ∧ S2 = S ++ [some (.lst (iW xs))]) ?_ ?_ _ 0 _ _ (by simp [walkFuel]) (by omega) ⟨[], _, _, _, rfl, rfl, rfl⟩
      · rintro t w g S2 hw ⟨xs, dig, stir, x5, hx, rfl, rfl⟩
        have ht : t < 50 := by have := (List.getElem?_eq_some_iff.mp hw).1; simpa using this
        rw [List.getElem?_map, List.getElem?_range ht] at hw
        cases hw
        have hz : (iW xs).length ≤ 1000000 := by simp; omega
        have grow : ∀ x : Int, iW xs ++ [W.dat (.int x)] = iW (xs ++ [x]) := fun x => by simp [iW]
        repeat fail
        refine wp_cond (fun h => ?_) fun h => ?_
        · repeat fail
          refine wp_recv (recv_append get_last) ?_
          repeat fail
          refine wp_method (append_obj get_last hz) ?_
          rw [set_last, grow]
          repeat fail
          exact ⟨_, _, _, _, by simp [hx], rfl, rfl⟩
        · repeat fail
          refine wp_bin (bin_mul (mulOk_r (by decide) (by decide))) ?_
          repeat fail
          refine wp_bin (bin_mul (mulOk_l (by decide) (by decide))) ?_
          repeat fail
          refine wp_bin (bin_mul (mulOk_r (by omega) (by omega))) ?_
          repeat fail
          refine wp_bin (bin_mul (mulOk_r (by omega) (by omega))) ?_
          repeat fail
          refine wp_recv (recv_append get_last) ?_
          repeat fail
          have m0 : ∀ v : Int, 0 ≤ v.fmod 2147483647 := fun v => Int.fmod_nonneg_of_pos _ (by decide)
          have m1 : ∀ v : Int, v.fmod 2147483647 < 2147483647 := fun v => Int.fmod_lt_of_pos _ (by decide)
          refine wp_bin (bin_mul (mulOk_l ?_ ?_)) ?_
          · have := m0 (stir * 16807 + ci + 9 * (t : Int) * (t : Int) * (t : Int) + 5)
            omega
          · have := m1 (stir * 16807 + ci + 9 * (t : Int) * (t : Int) * (t : Int) + 5)
            omega
          repeat fail
          refine wp_method (append_obj get_last hz) ?_
          rw [set_last, grow]
          repeat fail
          exact ⟨_, _, _, _, by simp [hx], rfl, rfl⟩
      · rintro g S2 ⟨xs, dig, stir, x5, hx, rfl, rfl⟩
        rw [List.length_map, List.length_range] at hx
        repeat fail
        exact .inr ⟨by omega, iW xs, _, get_last, allDat_i xs, ⟨xs, hx, rfl⟩, take_app⟩
    refine wp_cond (fun h => ?_) fun h => ?_
    · repeat (first | exact rest _ | fail)
    · exact rest _
  obtain ⟨a, S', h1, ⟨xs, h2, rfl⟩, rfl⟩ := ex_of_wp key
  exact ⟨xs, h2, h1⟩
end K29
end

section
set_option Elab.async false
set_option linter.all false
set_option maxRecDepth 100000
set_option maxHeartbeats 1000000
set_option autoImplicit false
/-! KL16: rows. -/
open PySem L2 Mp Mp.Q KM
local macro_rules
  | `(tactic| fail) => `(tactic| first
    | with_reducible refine wp_nxS ?_
    | with_reducible refine wp_rtS ?_
    | with_reducible refine wp_bkS ?_
    | with_reducible refine wp_ctS ?_
    | with_reducible refine wp_xcS ?_
    | with_reducible refine wp_nxF ?_
    | with_reducible refine wp_ctF ?_
    | with_reducible refine wp_bkF ?_
    | with_reducible refine wp_rtF ?_
    | with_reducible refine wp_xcF ?_
    | with_reducible refine wp_nxD ?_
    | with_reducible refine wp_rtD ?_
    | with_reducible refine wp_rtC ?_
    | with_reducible refine wp_rtO ?_
    | with_reducible refine wp_xcD ?_
    | with_reducible refine wp_ret ?_
    | with_reducible refine wp_seq ?_
    | with_reducible refine wp_bndE ?_
    | with_reducible refine wp_bnd ?_
    | ((with_reducible apply wp_getS); · rfl)
    | with_reducible refine wp_evs_cons ?_
    | with_reducible refine wp_evs_nil ?_
    | with_reducible refine wp_tup ?_
    | with_reducible refine wp_and1 ?_
    | with_reducible refine wp_and ?_
    | with_reducible refine wp_or1 ?_
    | with_reducible refine wp_or ?_
    | with_reducible refine wp_boolV1 ?_
    | with_reducible refine wp_boolA ?_
    | with_reducible refine wp_boolO ?_
    | with_reducible refine wp_opt ?_
    | with_reducible refine optQ_int ?_
    | with_reducible refine wp_listD ?_
    | with_reducible refine wp_listL ?_
    | refine ⟨[], rfl, Nat.le_of_ble_eq_true rfl, ?_⟩
    | refine ⟨[_], rfl, Nat.le_of_ble_eq_true rfl, ?_⟩
    | refine ⟨[_, _], rfl, Nat.le_of_ble_eq_true rfl, ?_⟩
    | refine ⟨[_, _, _], rfl, Nat.le_of_ble_eq_true rfl, ?_⟩
    | refine ⟨[_, _, _, _], rfl, Nat.le_of_ble_eq_true rfl, ?_⟩
    | refine ⟨[_, _, _, _, _], rfl, Nat.le_of_ble_eq_true rfl, ?_⟩
    | refine ⟨[_, _, _, _, _, _], rfl, Nat.le_of_ble_eq_true rfl, ?_⟩
    | refine ⟨[_, _, _, _, _, _, _], rfl, Nat.le_of_ble_eq_true rfl, ?_⟩
    | ((with_reducible apply wp_blt); · with_reducible exact len_lst)
    | ((with_reducible apply wp_walkV); · with_reducible exact walk_lst)
    | ((with_reducible apply wp_enum); · with_reducible exact enum_lst)
    | ((with_reducible apply wp_cmp); · with_reducible exact eq_int)
    | ((with_reducible apply wp_cmp); · with_reducible exact ne_int)
    | ((with_reducible apply wp_bin); · with_reducible exact bin_add)
    | ((with_reducible apply wp_bin); · with_reducible exact bin_sub)
    | ((with_reducible apply wp_bin); · with_reducible exact bin_mod (by decide))
    | ((with_reducible apply wp_bin); · with_reducible exact bin_fdiv (by decide) (by decide))
    | ((with_reducible apply wp_bin); · with_reducible exact bin_pow (by decide))
    | ((with_reducible apply wp_cmp); · rfl)
    | ((with_reducible apply wp_truth); · rfl)
    | ((with_reducible apply wp_asBool); · rfl)
    | ((with_reducible apply wp_isi); · rfl)
    | ((with_reducible apply wp_neg); · rfl)
    | ((with_reducible apply wp_asgTup); · rfl)
    | ((with_reducible apply wp_item); · with_reducible exact item_lst (by omega))
    | ((with_reducible apply wp_item); · rfl)
    | ((with_reducible refine wp_condT ?_ ?_); · rfl)
    | ((with_reducible refine wp_condF ?_ ?_); · rfl))
local macro_rules
  | `(tactic| fail) => `(tactic| first
    | ((with_reducible apply wp_blt); · with_reducible exact int_int)
    | ((with_reducible apply wp_blt); · with_reducible exact int_bool))
namespace Mp.Q
theorem add_objD {S : Store} {k : Nat} {ds es : List PyData} (h : S[k]? = some (some (.lst (ds.map W.dat)))) (hz : ds.length + es.length ≤ 1000000) : binOp false .Add (.obj k) (.dat (.list es)) S = .ok (.dat (.list (ds ++ es))) S := by
  have e : binOp false .Add (.obj k) (.dat (.list es)) S = (match seqOf S (.obj k), seqOf S (.dat (.list es)) with
      | some (true, xs), some (true, ys) => if roomy (xs.length + ys.length) = true then newList false (xs ++ ys) S else .stuck
      | _, _ => .stuck) := rfl
  have e2 : seqOf S (.dat (.list es)) = some (true, es.map W.dat) := rfl
  have r : roomy ((ds.map W.dat).length + (es.map W.dat).length) = true := by rw [List.length_map, List.length_map]; exact decide_eq_true hz
  rw [e, seq_obj h, e2]
  simp only [r, if_true]
  rw [← List.map_append, newList_dat]
theorem wp_cut {α : Type} {m : M α} {S : Store} {P Q : α → Store → Prop} {E : Xc → Store → Prop} (h : wp m S P E) (k : ∀ f S', P f S' → wp (ret f) S' Q E) : wp m S Q E := wp_mono h (fun f S' p => wp_of_ret (k f S' p)) fun _ _ e => e
end Mp.Q
namespace K29
/-- the store with the bag -/
def bg (S : Store) (k h : Nat) (xs : List Int) : Store := S.set k (some (.lst (iW ((h : Int) :: xs))))
section
variable {S X : Store} {k h i : Nat} {xs : List Int}
theorem bg_len : (bg S k h xs).length = S.length := List.length_set
theorem bg_get : (bg S k h xs ++ X)[S.length + i]? = X[i]? := by
  have := get_at (S := bg S k h xs) (T := X) i
  rwa [bg_len] at this
theorem bg_get0 : (bg S k h xs ++ X)[S.length]? = X[0]? := bg_get (i := 0)
theorem bg_set {o : Option Ob} : (bg S k h xs ++ X).set (S.length + i) o = bg S k h xs ++ X.set i o := by
  have := set_at (S := bg S k h xs) (T := X) (o := o) i
  rwa [bg_len] at this
theorem bg_set0 {o : Option Ob} : (bg S k h xs ++ X).set S.length o = bg S k h xs ++ X.set 0 o := bg_set (i := 0)
theorem bg_take : (bg S k h xs ++ X).take S.length = bg S k h xs := by
  have := take_app (S := bg S k h xs) (T := X)
  rwa [bg_len] at this
theorem take_bag (n many : Nat) (hk : k < S.length) (hx : xs.length = 50) (hm : 0 < many) : ∃ r, r < many ∧ calls G ds (n + 1) "_law_take" [.obj k, .dat (nD many)] (bg S k h xs ++ X) = .ok (.dat (nD r)) (bg S k (h + 1) xs ++ X) := by
  have hg : (bg S k h xs ++ X)[k]? = some (some (.lst (iW ((h : Int) :: xs)))) := by
    rw [List.getElem?_append_left (by rw [bg_len]; exact hk)]
    exact List.getElem?_set_self hk
  obtain ⟨r, h1, h2⟩ := take_ok n k h many xs _ hg (by omega) (by omega) hm
  refine ⟨r, h1, ?_⟩
  rw [h2, List.set_append_left _ _ (by rw [bg_len]; exact hk)]
  unfold bg
  rw [List.set_set]
end
abbrev rwO (rws : List Row) : Option Ob := some (.lst ((rws.map rowD).map W.dat))
abbrev glO (gl : List Nat) : Option Ob := some (.lst (nW gl))
theorem rows_ok (n k h : Nat) (xs : List Int) (S : Store) (hk : k < S.length) (hx : xs.length = 50) :
    ∃ h' rs, Formed rs ∧ rs.length ≤ 10 ∧ calls G ds (n + 2) "_law_rows" [.obj k, .dat (nD 8)] (bg S k h xs) = .ok (.dat (rowsD rs)) (bg S k h' xs) := by
  have key : wp (calls G ds (n + 2) "_law_rows" [.obj k, .dat (nD 8)]) (bg S k h xs) (fun a S' => ∃ h' rs, Formed rs ∧ rs.length ≤ 10 ∧ a = .dat (rowsD rs) ∧ S' = bg S k h' xs) noE := by
    refine c_law_rows ?_
    unfold p_law_rows
    have e0 : ∀ h, bg S k h xs = bg S k h xs ++ [] := fun h => by simp
    rw [bg_len]
    repeat fail
    rw [e0 h]
    obtain ⟨m0, hm0, c0⟩ := take_bag (S := S) (X := []) (k := k) (h := h) (xs := xs) n 8 hk hx (by omega)
    refine wp_of c0 ?_
    repeat fail
    obtain ⟨f0, hf0, c1⟩ := take_bag (S := S) (X := []) (k := k) (h := h + 1) (xs := xs) n 3 hk hx (by omega)
    refine wp_of c1 ?_
    repeat fail
    have em : W.dat (.int (1 + (m0 : Int))) = W.dat (nD (m0 + 1)) := by show W.dat (.int _) = W.dat (.int _); congr 2; omega
    rw [em]
    generalize hM : m0 + 1 = many
    have hmany : 0 < many ∧ many ≤ 8 := by omega
    generalize (if decide ((f0 : Int) = 0) = true then (1 : Int) else 0) = full
    refine ⟨Nat.le_of_ble_eq_true rfl, rfl, ?_⟩
    rw [← e0, bg_len]
    repeat fail
    refine wp_range (range_okN (n := many) (by omega)) ?_
    refine wp_for (fun t g S2 => ∃ (h : Nat) (T : Store) (rws : List Row) (x5 x6 x7 x8 x9 : Option W), rws.length = t ∧ (∀ r ∈ rws, r.1 < many + 2 ∧ r.2.1 < many + 2) ∧ g = [some (.obj k), some (.dat (nD 8)), some (.dat (nD many)), some (.dat (.int full)), some (.obj S.length), x5, x6, x7, x8, x9] ∧ S2 = bg S k h xs ++ (rwO rws :: T)) ?_ ?_ _ 0 _ _ (by simp [walkFuel]; omega) (by omega) ⟨_, [], [], _, _, _, _, _, rfl, by simp, rfl, rfl⟩
    · rintro t w g S2 hw ⟨h, T, rws, x5, x6, x7, x8, x9, hrl, hrb, rfl, rfl⟩
      have ht : t < many := by have := (List.getElem?_eq_some_iff.mp hw).1; simpa using this
      rw [List.getElem?_map, List.getElem?_range ht] at hw
      cases hw
      repeat fail
      refine ⟨Nat.le_of_ble_eq_true rfl, rfl, ?_⟩
      have el : (bg S k h xs ++ (rwO rws :: T)).length = S.length + (T.length + 1) := by simp [bg_len]
      rw [el, List.append_assoc]
      repeat fail
      refine wp_range (range_okN (n := 2) (by omega)) ?_
      refine wp_for (fun i g S2 => ∃ (h : Nat) (gl : List Nat) (x7 x8 x9 : Option W), gl.length = i ∧ (∀ x ∈ gl, x < many + 2) ∧ g = [some (.obj k), some (.dat (nD 8)), some (.dat (nD many)), some (.dat (.int full)), some (.obj S.length), some (.dat (nD t)), some (.obj (S.length + (T.length + 1))), x7, x8, x9] ∧ S2 = bg S k h xs ++ (rwO rws :: T ++ [glO gl])) ?_ ?_ _ 0 _ _ (by simp [walkFuel]) (by omega) ⟨_, [], _, _, _, rfl, by simp, rfl, rfl⟩
      · rintro i w g S2 hw ⟨h, gl, x7, x8, x9, hgl, hgb, rfl, rfl⟩
        have hi : i < 2 := by have := (List.getElem?_eq_some_iff.mp hw).1; simpa using this
        rw [List.getElem?_map, List.getElem?_range hi] at hw
        cases hw
        have gg : ∀ h gl, (bg S k h xs ++ (rwO rws :: T ++ [glO gl]))[S.length + (T.length + 1)]? = some (glO gl) := fun h gl => by
          rw [bg_get, List.cons_append, List.getElem?_cons_succ]
          exact get_last
        have gs : ∀ h gl o, (bg S k h xs ++ (rwO rws :: T ++ [glO gl])).set (S.length + (T.length + 1)) o = bg S k h xs ++ (rwO rws :: T ++ [o]) := fun h gl o => by
          rw [bg_set, List.cons_append, List.set_cons_succ, set_last]
          rfl
        repeat fail
        obtain ⟨w1, hw1, c2⟩ := take_bag (S := S) (X := rwO rws :: T ++ [glO gl]) (k := k) (h := h) (xs := xs) n 8 hk hx (by omega)
        refine wp_of c2 ?_
        repeat fail
        obtain ⟨g1, hg1, c3⟩ := take_bag (S := S) (X := rwO rws :: T ++ [glO gl]) (k := k) (h := h + 1) (xs := xs) n many hk hx (by omega)
        refine wp_of c3 ?_
        iterate 2 fail
        generalize (w1 : Int) + full = way
        refine wp_cut (P := fun f S' => ∃ gg, gg < many ∧ f = .nx [some (.obj k), some (.dat (nD 8)), some (.dat (nD many)), some (.dat (.int full)), some (.obj S.length), some (.dat (nD t)), some (.obj (S.length + (T.length + 1))), some (.dat (nD i)), some (.dat (.int way)), some (.dat (nD gg))] ∧ S' = bg S k (h + 1 + 1) xs ++ (rwO rws :: T ++ [glO gl])) ?_ ?_
        · repeat fail
          refine wp_cond (fun h1 => ?_) fun h1 => ?_
          · repeat fail
            refine wp_cond (fun h2 => ?_) fun h2 => ?_
            · repeat fail
              have h2 := of_decide_eq_true h2
              exact ⟨t + 1, by omega, rfl, rfl⟩
            · repeat fail
              exact ⟨g1, hg1, rfl, rfl⟩
          · repeat fail
            exact ⟨g1, hg1, rfl, rfl⟩
        · rintro f S' ⟨gq, hgq, rfl, rfl⟩
          iterate 2 fail
          refine wp_cut (P := fun f S' => ∃ gg, gg < many + 2 ∧ f = .nx [some (.obj k), some (.dat (nD 8)), some (.dat (nD many)), some (.dat (.int full)), some (.obj S.length), some (.dat (nD t)), some (.obj (S.length + (T.length + 1))), some (.dat (nD i)), some (.dat (.int way)), some (.dat (nD gg))] ∧ S' = bg S k (h + 1 + 1) xs ++ (rwO rws :: T ++ [glO gl])) ?_ ?_
          · repeat fail
            refine wp_cond (fun h1 => ?_) fun h1 => ?_
            · repeat fail
              refine ⟨many + (if decide (way = 0) = true then 1 else 0), by split <;> omega, ?_, rfl⟩
              have eg : W.dat (.int ((many : Int) + if decide (way = 0) = true then 1 else 0)) = W.dat (nD (many + (if decide (way = 0) = true then 1 else 0))) := by
                show W.dat (.int _) = W.dat (.int _)
                congr 2
                split <;> omega
              rw [eg]
              rfl
            · repeat fail
              exact ⟨gq, by omega, rfl, rfl⟩
          · rintro f S' ⟨gr, hgr, rfl, rfl⟩
            repeat fail
            refine wp_recv (recv_append (gg _ _)) ?_
            repeat fail
            refine wp_method (append_obj (gg _ _) (by simp; omega)) ?_
            rw [gs]
            repeat fail
            refine ⟨h + 1 + 1, gl ++ [gr], _, _, _, by simp [hgl], fun x hx => ?_, rfl, ?_⟩
            · rcases List.mem_append.mp hx with hx | hx
              · exact hgb x hx
              · rw [List.mem_singleton] at hx; omega
            · have : nW gl ++ [W.dat (nD gr)] = nW (gl ++ [gr]) := by simp [nW]
              rw [this]
      · rintro g S2 ⟨h, gl, x7, x8, x9, hgl, hgb, rfl, rfl⟩
        rw [List.length_map, List.length_range] at hgl
        obtain ⟨a, b, rfl⟩ : ∃ a b, gl = [a, b] := by
          match gl, hgl with
          | [a, b], _ => exact ⟨a, b, rfl⟩
        have gg : (bg S k h xs ++ (rwO rws :: T ++ [glO [a, b]]))[S.length + (T.length + 1)]? = some (some (.lst (nW [a, b]))) := by
          rw [bg_get, List.cons_append, List.getElem?_cons_succ]
          exact get_last
        have gr : (bg S k h xs ++ (rwO rws :: T ++ [glO [a, b]]))[S.length]? = some (rwO rws) := bg_get0
        repeat fail
        refine wp_recv (recv_append gr) ?_
        repeat fail
        refine wp_item (item_nobj (i := 0) gg rfl) ?_
        repeat fail
        refine wp_item (item_nobj (i := 1) gg rfl) ?_
        repeat fail
        refine wp_method (append_obj gr (by simp; omega)) ?_
        rw [bg_set0]
        repeat fail
        refine ⟨h, T ++ [glO [a, b]], rws ++ [(a, b, .op)], _, _, _, _, _, by simp [hrl], fun r hr => ?_, rfl, ?_⟩
        · rcases List.mem_append.mp hr with hr | hr
          · exact hrb r hr
          · rw [List.mem_singleton] at hr
            subst hr
            exact ⟨hgb a (by simp), hgb b (by simp)⟩
        · have : (rws.map rowD).map W.dat ++ [W.dat (.tuple [nD a, nD b, .str "open"])] = ((rws ++ [(a, b, Kd.op)]).map rowD).map W.dat := by simp; rfl
          rw [this]
          rfl
    · rintro g S2 ⟨h, T, rws, x5, x6, x7, x8, x9, hrl, hrb, rfl, rfl⟩
      rw [List.length_map, List.length_range] at hrl
      have gr : (bg S k h xs ++ (rwO rws :: T))[S.length]? = some (rwO rws) := bg_get0
      repeat fail
      refine wp_bin (add_objD gr (by simp; omega)) ?_
      repeat fail
      have hall : ∀ r ∈ rws ++ [(many + 1, many + 1, Kd.wh), (many + 1, many + 1, Kd.de)], r.1 < many + 2 ∧ r.2.1 < many + 2 := by
        intro r hr
        rcases List.mem_append.mp hr with hr | hr
        · exact hrb r hr
        · simp at hr
          rcases hr with rfl | rfl
          · exact ⟨by show many + 1 < _; omega, by show many + 1 < _; omega⟩
          · exact ⟨by show many + 1 < _; omega, by show many + 1 < _; omega⟩
      refine ⟨h, rws ++ [(many + 1, many + 1, .wh), (many + 1, many + 1, .de)], ⟨by simp, fun i b hi => ?_⟩, by simp; omega, ?_, ?_⟩
      · have hm := List.mem_of_getElem? (rowAt_eq hi)
        have := hall _ hm
        have hl : (rws ++ [(many + 1, many + 1, Kd.wh), (many + 1, many + 1, Kd.de)]).length = many + 2 := by simp [hrl]
        rw [hl]
        cases b
        · exact this.1
        · exact this.2
      · unfold rowsD
        rw [List.map_append]
        rfl
      · have := bg_take (S := S) (X := rwO rws :: T) (k := k) (h := h) (xs := xs)
        exact this
  obtain ⟨a, S', h1, h', rs, F, hl, rfl, rfl⟩ := ex_of_wp key
  exact ⟨h', rs, F, hl, h1⟩
end K29
end

section
set_option Elab.async false
set_option linter.all false
set_option maxRecDepth 100000
set_option maxHeartbeats 2000000
set_option autoImplicit false
/-! KL17: bent rows. -/
open PySem L2 Mp Mp.Q KM
local macro_rules
  | `(tactic| fail) => `(tactic| first
    | with_reducible refine wp_nxS ?_
    | with_reducible refine wp_rtS ?_
    | with_reducible refine wp_bkS ?_
    | with_reducible refine wp_ctS ?_
    | with_reducible refine wp_xcS ?_
    | with_reducible refine wp_nxF ?_
    | with_reducible refine wp_ctF ?_
    | with_reducible refine wp_bkF ?_
    | with_reducible refine wp_rtF ?_
    | with_reducible refine wp_xcF ?_
    | with_reducible refine wp_nxD ?_
    | with_reducible refine wp_rtD ?_
    | with_reducible refine wp_rtC ?_
    | with_reducible refine wp_rtO ?_
    | with_reducible refine wp_xcD ?_
    | with_reducible refine wp_ret ?_
    | with_reducible refine wp_seq ?_
    | with_reducible refine wp_bndE ?_
    | with_reducible refine wp_bnd ?_
    | ((with_reducible apply wp_getS); · rfl)
    | with_reducible refine wp_evs_cons ?_
    | with_reducible refine wp_evs_nil ?_
    | with_reducible refine wp_tup ?_
    | with_reducible refine wp_and1 ?_
    | with_reducible refine wp_and ?_
    | with_reducible refine wp_or1 ?_
    | with_reducible refine wp_or ?_
    | with_reducible refine wp_boolV1 ?_
    | with_reducible refine wp_boolA ?_
    | with_reducible refine wp_boolO ?_
    | with_reducible refine wp_opt ?_
    | with_reducible refine optQ_int ?_
    | with_reducible refine wp_listD ?_
    | with_reducible refine wp_listL ?_
    | refine ⟨[], rfl, Nat.le_of_ble_eq_true rfl, ?_⟩
    | refine ⟨[_], rfl, Nat.le_of_ble_eq_true rfl, ?_⟩
    | refine ⟨[_, _], rfl, Nat.le_of_ble_eq_true rfl, ?_⟩
    | refine ⟨[_, _, _], rfl, Nat.le_of_ble_eq_true rfl, ?_⟩
    | refine ⟨[_, _, _, _], rfl, Nat.le_of_ble_eq_true rfl, ?_⟩
    | refine ⟨[_, _, _, _, _], rfl, Nat.le_of_ble_eq_true rfl, ?_⟩
    | refine ⟨[_, _, _, _, _, _], rfl, Nat.le_of_ble_eq_true rfl, ?_⟩
    | refine ⟨[_, _, _, _, _, _, _], rfl, Nat.le_of_ble_eq_true rfl, ?_⟩
    | ((with_reducible apply wp_blt); · with_reducible exact len_lst)
    | ((with_reducible apply wp_walkV); · with_reducible exact walk_lst)
    | ((with_reducible apply wp_enum); · with_reducible exact enum_lst)
    | ((with_reducible apply wp_cmp); · with_reducible exact eq_int)
    | ((with_reducible apply wp_cmp); · with_reducible exact ne_int)
    | ((with_reducible apply wp_bin); · with_reducible exact bin_add)
    | ((with_reducible apply wp_bin); · with_reducible exact bin_sub)
    | ((with_reducible apply wp_bin); · with_reducible exact bin_mod (by decide))
    | ((with_reducible apply wp_bin); · with_reducible exact bin_fdiv (by decide) (by decide))
    | ((with_reducible apply wp_bin); · with_reducible exact bin_pow (by decide))
    | ((with_reducible apply wp_cmp); · rfl)
    | ((with_reducible apply wp_truth); · rfl)
    | ((with_reducible apply wp_asBool); · rfl)
    | ((with_reducible apply wp_isi); · rfl)
    | ((with_reducible apply wp_neg); · rfl)
    | ((with_reducible apply wp_asgTup); · rfl)
    | ((with_reducible apply wp_item); · with_reducible exact item_lst (by omega))
    | ((with_reducible apply wp_item); · rfl)
    | ((with_reducible refine wp_condT ?_ ?_); · rfl)
    | ((with_reducible refine wp_condF ?_ ?_); · rfl))
namespace Mp.Q
section
variable {S : Store} {ds : List PyData} {i n : Nat}
theorem slice_to (h : i ≤ ds.length) : sliceOf false (.dat (.list ds)) none (some ((i : Nat) : Int)) S = .ok (.dat (.list (ds.take i))) S := by
  have e : sliceOf false (.dat (.list ds)) none (some ((i : Nat) : Int)) S = newList false (cutW (ds.map W.dat) none (some ((i : Nat) : Int))) S := rfl
  have c : cutW (ds.map W.dat) none (some ((i : Nat) : Int)) = (ds.take i).map W.dat := by
    unfold cutW
    rw [HT.sIx_none, HT.sIx_nat, List.length_map, List.drop_zero, Nat.sub_zero, Nat.min_eq_left h, List.map_take]
  rw [e, c, newList_dat]
theorem slice_from (h : i ≤ ds.length) : sliceOf false (.dat (.list ds)) (some ((i : Nat) : Int)) none S = .ok (.dat (.list (ds.drop i))) S := by
  have e : sliceOf false (.dat (.list ds)) (some ((i : Nat) : Int)) none S = newList false (cutW (ds.map W.dat) (some ((i : Nat) : Int)) none) S := rfl
  have c : cutW (ds.map W.dat) (some ((i : Nat) : Int)) none = (ds.drop i).map W.dat := by
    unfold cutW
    rw [HT.sIx_none, HT.sIx_nat, List.length_map, Nat.min_eq_left h, List.map_drop]
    exact List.take_of_length_le (by simp)
  rw [e, c, newList_dat]
theorem slice_from1 (h : i + 1 ≤ ds.length) : sliceOf false (.dat (.list ds)) (some ((i : Int) + 1)) none S = .ok (.dat (.list (ds.drop (i + 1)))) S := slice_from (i := i + 1) h
theorem turned_list : turned false (.dat (.list ds)) S = .ok (.dat (.list ds.reverse)) S := by
  have e : turned false (.dat (.list ds)) S = newList false (ds.map W.dat).reverse S := rfl
  rw [e, ← List.map_reverse, newList_dat]
theorem listRg_live (h : n ≤ 1000000) : listRg true (.dat (nD n)) S = .ok (.obj S.length) (S ++ [some (.lst (nW (List.range n)))]) := by
  have r : rgOk (n : Int) = true := by
    unfold rgOk
    rw [decide_eq_true (show -(2 ^ 62) ≤ (n : Int) by omega), decide_eq_true (show (n : Int) < 2 ^ 62 by omega)]
    rfl
  have q : roomy (n : Int).toNat = true := by unfold roomy; rw [Int.toNat_natCast]; exact decide_eq_true h
  have e : listRg true (.dat (nD n)) = newList true (rangeL 0 (n : Int).toNat) := if_pos ⟨q, r⟩
  rw [e, Int.toNat_natCast, rangeL_eq]
  refine newList_live ?_
  show ((List.range n).map fun i => W.dat (nD i)).all (W.below _) = true
  rw [List.all_map]
  exact List.all_eq_true.mpr fun x hx => rfl
end
end Mp.Q
namespace K29
theorem exchanged_ok (n : Nat) (w : List Row) (one other : Nat) (S : Store) (F : Formed w) (hM : w.length ≤ 20) (h1 : one < w.length) (h2 : other < w.length) :
    ∃ rs : List Row, (∀ r ∈ rs, r.1 < w.length ∧ r.2.1 < w.length) ∧ rs.length = w.length ∧ calls G ds (n + 1) "_law_exchanged" [.dat (rowsD w), .dat (nD one), .dat (nD other)] S = .ok (.dat (rowsD rs)) S := by
  generalize hl : ((List.range w.length).set one other).set other one = l
  have ll : l.length = w.length := by rw [← hl]; simp
  have lx : ∀ x ∈ l, x < w.length := by
    intro x hx
    rw [← hl] at hx
    rcases List.mem_or_eq_of_mem_set hx with hx | rfl
    · rcases List.mem_or_eq_of_mem_set hx with hx | rfl
      · simpa using hx
      · exact h2
    · exact h1
  have lg : ∀ i, i < w.length → ∃ x, l[i]? = some x ∧ x < w.length := fun i hi => ⟨l[i], List.getElem?_eq_getElem (by omega), lx _ (List.getElem_mem _)⟩
  have key : wp (calls G ds (n + 1) "_law_exchanged" [.dat (rowsD w), .dat (nD one), .dat (nD other)]) S (fun a S' => (∃ rs : List Row, (∀ r ∈ rs, r.1 < w.length ∧ r.2.1 < w.length) ∧ rs.length = w.length ∧ a = .dat (rowsD rs)) ∧ S' = S) noE := by
    refine c_law_exchanged ?_
    unfold p_law_exchanged
    repeat fail
    refine wp_blt len_list ?_
    rw [List.length_map]
    refine wp_listRg (listRg_live (by omega)) ?_
    repeat fail
    have s1 : ∀ (l : List Nat) (i v : Nat), (nW l).set ((i : Nat) : Int).toNat (W.dat (nD v)) = nW (l.set i v) := fun l i v => by simp only [nW, Int.toNat_natCast, List.map_set]
    refine wp_setItem (set_obj get_last (by omega) (by simp; omega)) ?_
    rw [set_last, s1]
    repeat fail
    refine wp_setItem (set_obj get_last (by omega) (by simp; omega)) ?_
    rw [set_last, s1, hl]
    repeat fail
    refine wp_walkV (walk_obj get_last) ?_
    repeat fail
    refine wp_compN (l := l) (fun x => .dat (rowD (l.getD (go w x false) 0, l.getD (go w x true) 0, kd w x))) get_last (by omega) (fun x hx => ?_) ?_
    · have hxN := lx x hx
      obtain ⟨a, ha, _⟩ := lg _ (F.lt x false hxN)
      obtain ⟨b, hb, _⟩ := lg _ (F.lt x true hxN)
      repeat fail
      refine wp_item (item_listN (row_get hxN)) ?_
      repeat fail
      refine wp_item (item_nobj get_last ha) ?_
      repeat fail
      refine wp_item (item_listN (row_get hxN)) ?_
      repeat fail
      refine wp_item (item_nobj get_last hb) ?_
      repeat fail
      refine wp_item (item_listN (row_get hxN)) ?_
      repeat fail
      refine ⟨?_, rfl⟩
      rw [List.getD_eq_getElem?_getD, ha, List.getD_eq_getElem?_getD, hb]
      rfl
    have en : ∀ S, newList false (l.map fun x => W.dat (rowD (l.getD (go w x false) 0, l.getD (go w x true) 0, kd w x))) S = .ok (.dat (rowsD (l.map fun x => (l.getD (go w x false) 0, l.getD (go w x true) 0, kd w x)))) S := fun S => by
      have := newList_dat (S := S) (ds := (l.map fun x => (l.getD (go w x false) 0, l.getD (go w x true) 0, kd w x)).map rowD)
      rw [List.map_map, List.map_map] at this
      exact this
    refine wp_newList (en _) ?_
    repeat fail
    refine ⟨⟨_, fun r hr => ?_, by rw [List.length_map, ll], rfl⟩, take_app⟩
    obtain ⟨x, hx, rfl⟩ := List.mem_map.mp hr
    have hxN := lx x hx
    obtain ⟨a, ha, ha'⟩ := lg _ (F.lt x false hxN)
    obtain ⟨b, hb, hb'⟩ := lg _ (F.lt x true hxN)
    show l.getD (go w x false) 0 < _ ∧ l.getD (go w x true) 0 < _
    rw [List.getD_eq_getElem?_getD, ha, List.getD_eq_getElem?_getD, hb]
    exact ⟨ha', hb'⟩
  obtain ⟨a, S', h1, ⟨rs, h2, h3, rfl⟩, rfl⟩ := ex_of_wp key
  exact ⟨rs, h2, h3, h1⟩
end K29
end

section
set_option Elab.async false
set_option linter.all false
set_option maxRecDepth 100000
set_option maxHeartbeats 2000000
set_option autoImplicit false
/-! KL18: bent rows. -/
open PySem L2 Mp Mp.Q KM
local macro_rules
  | `(tactic| fail) => `(tactic| first
    | with_reducible refine wp_nxS ?_
    | with_reducible refine wp_rtS ?_
    | with_reducible refine wp_bkS ?_
    | with_reducible refine wp_ctS ?_
    | with_reducible refine wp_xcS ?_
    | with_reducible refine wp_nxF ?_
    | with_reducible refine wp_ctF ?_
    | with_reducible refine wp_bkF ?_
    | with_reducible refine wp_rtF ?_
    | with_reducible refine wp_xcF ?_
    | with_reducible refine wp_nxD ?_
    | with_reducible refine wp_rtD ?_
    | with_reducible refine wp_rtC ?_
    | with_reducible refine wp_rtO ?_
    | with_reducible refine wp_xcD ?_
    | with_reducible refine wp_ret ?_
    | with_reducible refine wp_seq ?_
    | with_reducible refine wp_bndE ?_
    | with_reducible refine wp_bnd ?_
    | ((with_reducible apply wp_getS); · rfl)
    | with_reducible refine wp_evs_cons ?_
    | with_reducible refine wp_evs_nil ?_
    | with_reducible refine wp_tup ?_
    | with_reducible refine wp_and1 ?_
    | with_reducible refine wp_and ?_
    | with_reducible refine wp_or1 ?_
    | with_reducible refine wp_or ?_
    | with_reducible refine wp_boolV1 ?_
    | with_reducible refine wp_boolA ?_
    | with_reducible refine wp_boolO ?_
    | with_reducible refine wp_opt ?_
    | with_reducible refine optQ_int ?_
    | with_reducible refine wp_listD ?_
    | with_reducible refine wp_listL ?_
    | refine ⟨[], rfl, Nat.le_of_ble_eq_true rfl, ?_⟩
    | refine ⟨[_], rfl, Nat.le_of_ble_eq_true rfl, ?_⟩
    | refine ⟨[_, _], rfl, Nat.le_of_ble_eq_true rfl, ?_⟩
    | refine ⟨[_, _, _], rfl, Nat.le_of_ble_eq_true rfl, ?_⟩
    | refine ⟨[_, _, _, _], rfl, Nat.le_of_ble_eq_true rfl, ?_⟩
    | refine ⟨[_, _, _, _, _], rfl, Nat.le_of_ble_eq_true rfl, ?_⟩
    | refine ⟨[_, _, _, _, _, _], rfl, Nat.le_of_ble_eq_true rfl, ?_⟩
    | refine ⟨[_, _, _, _, _, _, _], rfl, Nat.le_of_ble_eq_true rfl, ?_⟩
    | ((with_reducible apply wp_blt); · with_reducible exact len_lst)
    | ((with_reducible apply wp_walkV); · with_reducible exact walk_lst)
    | ((with_reducible apply wp_enum); · with_reducible exact enum_lst)
    | ((with_reducible apply wp_cmp); · with_reducible exact eq_int)
    | ((with_reducible apply wp_cmp); · with_reducible exact ne_int)
    | ((with_reducible apply wp_bin); · with_reducible exact bin_add)
    | ((with_reducible apply wp_bin); · with_reducible exact bin_sub)
    | ((with_reducible apply wp_bin); · with_reducible exact bin_mod (by decide))
    | ((with_reducible apply wp_bin); · with_reducible exact bin_fdiv (by decide) (by decide))
    | ((with_reducible apply wp_bin); · with_reducible exact bin_pow (by decide))
    | ((with_reducible apply wp_cmp); · rfl)
    | ((with_reducible apply wp_truth); · rfl)
    | ((with_reducible apply wp_asBool); · rfl)
    | ((with_reducible apply wp_isi); · rfl)
    | ((with_reducible apply wp_neg); · rfl)
    | ((with_reducible apply wp_asgTup); · rfl)
    | ((with_reducible apply wp_item); · with_reducible exact item_lst (by omega))
    | ((with_reducible apply wp_item); · rfl)
    | ((with_reducible refine wp_condT ?_ ?_); · rfl)
    | ((with_reducible refine wp_condF ?_ ?_); · rfl))
namespace K29
theorem row_mem {w : List Row} (F : Formed w) : ∀ r ∈ w, r.1 < w.length ∧ r.2.1 < w.length := by
  intro r hr
  obtain ⟨i, hi, e⟩ := List.mem_iff_getElem.mp hr
  have hrow : rowAt w i = r := by
    have := rowAt_eq hi
    rw [List.getElem?_eq_getElem hi, e] at this
    exact (Option.some.inj this).symm
  exact ⟨by have := F.lt i false hi; unfold go at this; rw [hrow] at this; exact this, by have := F.lt i true hi; unfold go at this; rw [hrow] at this; exact this⟩
section
variable {S : Store} {k h : Nat} {xs : List Int}
theorem take_bag0 (n many : Nat) (hk : k < S.length) (hx : xs.length = 50) (hm : 0 < many) : ∃ r, r < many ∧ calls G ds (n + 1) "_law_take" [.obj k, .dat (nD many)] (bg S k h xs) = .ok (.dat (nD r)) (bg S k (h + 1) xs) := by
  obtain ⟨r, h1, h2⟩ := take_bag (S := S) (X := []) (k := k) (h := h) (xs := xs) n many hk hx hm
  simp only [List.append_nil] at h2
  exact ⟨r, h1, h2⟩
theorem enum_rows {w : List Row} : enumM (.dat (.list (w.map rowD))) S = .ok (.list ((List.range w.length).map fun i => .dat (.tuple [nD i, rowD (rowAt w i)]))) S := by
  have := enum_lst (S := S) (n := w.length) (φ := fun i => rowD (rowAt w i))
  have e : lst w.length (fun i => rowD (rowAt w i)) = .list (w.map rowD) := (rowsD_lst w).symm
  rwa [e] at this
theorem walk_rows {w : List Row} : walkV (.dat (.list (w.map rowD))) S = .ok (.list ((List.range w.length).map fun i => .dat (rowD (rowAt w i)))) S := by
  have := walk_lst (S := S) (n := w.length) (φ := fun i => rowD (rowAt w i))
  have e : lst w.length (fun i => rowD (rowAt w i)) = .list (w.map rowD) := (rowsD_lst w).symm
  rwa [e] at this
theorem row_get' {w : List Row} {i : Nat} (h : i < w.length) : (w.map rowD)[i]? = some (rowD (rowAt w i)) := row_get h
end
/-- rows with small numbers -/
def Small (rs : List Row) : Prop := (∀ r ∈ rs, r.1 < 20 ∧ r.2.1 < 20) ∧ rs.length ≤ 20
theorem bent_ok (n k h : Nat) (xs : List Int) (w : List Row) (S : Store) (hk : k < S.length) (hx : xs.length = 50) (F : Formed w) (hM : w.length ≤ 11) :
    ∃ h' rs, Small rs ∧ calls G ds (n + 2) "_law_bent_rows" [.obj k, .dat (rowsD w)] (bg S k h xs) = .ok (.dat (rowsD rs)) (bg S k h' xs) := by
  have key : wp (calls G ds (n + 2) "_law_bent_rows" [.obj k, .dat (rowsD w)]) (bg S k h xs) (fun a S' => ∃ h' rs, Small rs ∧ a = .dat (rowsD rs) ∧ S' = bg S k h' xs) noE := by
    have hne := F.ne
    have wb := row_mem F
    have fin : ∀ (h' : Nat) (rs : List Row) (v : PyData), v = rowsD rs → Small rs → ∃ h'' rs', Small rs' ∧ W.dat v = .dat (rowsD rs') ∧ (bg S k h' xs).take (bg S k h xs).length = bg S k h'' xs := fun h' rs v e hs =>
      ⟨h', rs, hs, by rw [e], by rw [bg_len, ← bg_len (S := S) (k := k) (h := h') (xs := xs), List.take_length]⟩
    refine c_law_bent_rows ?_
    unfold p_law_bent_rows
    repeat fail
    refine wp_blt len_list ?_
    rw [List.length_map]
    repeat fail
    obtain ⟨one, h1, c1⟩ := take_bag0 (S := S) (k := k) (h := h) (xs := xs) n w.length hk hx hne
    refine wp_of c1 ?_
    repeat fail
    refine wp_item (item_listN (row_get' h1)) ?_
    have hr := wb _ (List.mem_of_getElem? (rowAt_eq h1))
    have e1 : rowD (rowAt w one) = .tuple [nD (rowAt w one).1, nD (rowAt w one).2.1, kdD (rowAt w one).2.2] := rfl
    generalize hrow : rowAt w one = row at hr e1
    obtain ⟨zero, second, kind⟩ := row
    have hz : zero < w.length := hr.1
    have hs : second < w.length := hr.2
    rw [e1]
    repeat fail
    obtain ⟨way, hw, c2⟩ := take_bag0 (S := S) (k := k) (h := h + 1) (xs := xs) n 9 hk hx (by omega)
    refine wp_of c2 ?_
    have l1 : one ≤ (w.map rowD).length := by simp; omega
    have l2 : one + 1 ≤ (w.map rowD).length := by simp; omega
    have smallR : ∀ r, r ∈ w → r.1 < 20 ∧ r.2.1 < 20 := fun r hr => by have := wb r hr; omega
    have mid : ∀ r : Row, r.1 < 20 ∧ r.2.1 < 20 → Small (w.take one ++ [r] ++ w.drop (one + 1)) := fun r hr => by
      refine ⟨fun x hx => ?_, by simp; omega⟩
      rcases List.mem_append.mp hx with hx | hx
      · rcases List.mem_append.mp hx with hx | hx
        · exact smallR x (List.mem_of_mem_take hx)
        · rw [List.mem_singleton] at hx; subst hx; exact hr
      · exact smallR x (List.mem_of_mem_drop hx)
    have midD : ∀ r : Row, PyData.list ((w.map rowD).take one ++ [rowD r] ++ (w.map rowD).drop (one + 1)) = rowsD (w.take one ++ [r] ++ w.drop (one + 1)) := fun r => by
      simp [rowsD, List.map_take, List.map_drop]
    rcases way with _ | _ | _ | _ | _ | _ | _ | _ | _ | way
    · repeat fail
      obtain ⟨other, ho, c3⟩ := take_bag0 (S := S) (k := k) (h := h + 1 + 1) (xs := xs) n w.length hk hx hne
      refine wp_of c3 ?_
      repeat fail
      obtain ⟨rs, b1, b2, c4⟩ := exchanged_ok n w one other (bg S k (h + 1 + 1 + 1) xs) F (by omega) h1 ho
      refine wp_of c4 ?_
      repeat fail
      exact fin _ rs _ rfl ⟨fun r hr => by have := b1 r hr; omega, by omega⟩
    · repeat fail
      refine wp_enum enum_rows ?_
      repeat fail
      refine wp_compA (fun i => .dat (rowD (if i = one then (w.length, second, kind) else rowAt w i))) (by omega) (fun i hi => ?_) ?_
      · repeat fail
        by_cases e : i = one
        · refine wp_condT (decide_eq_true (by rw [e])) ?_
          repeat fail
          exact ⟨by rw [if_pos e]; rfl, rfl⟩
        · refine wp_condF (decide_eq_false (by omega)) ?_
          repeat fail
          exact ⟨by rw [if_neg e], rfl⟩
      refine wp_newList (new_lst fun i _ => rfl) ?_
      repeat fail
      refine wp_item (item_listN (row_get' hz)) ?_
      repeat fail
      have ea : ∀ S, binOp false .Add (.dat (lst w.length fun i => rowD (if i = one then (w.length, second, kind) else rowAt w i))) (.dat (.list [rowD (rowAt w zero)])) S = .ok (.dat (.list (((List.range w.length).map fun i => rowD (if i = one then (w.length, second, kind) else rowAt w i)) ++ [rowD (rowAt w zero)]))) S := fun S => add_list (by simp; omega)
      refine wp_bin (ea _) ?_
      repeat fail
      have hrz := wb _ (List.mem_of_getElem? (rowAt_eq hz))
      refine fin _ (((List.range w.length).map fun i => if i = one then (w.length, second, kind) else rowAt w i) ++ [rowAt w zero]) _ (by simp [rowsD, List.map_map, Function.comp_def]) ⟨fun r hr => ?_, by simp; omega⟩
      rcases List.mem_append.mp hr with hr | hr
      · obtain ⟨i, hi, rfl⟩ := List.mem_map.mp hr
        have hi : i < w.length := by simpa using hi
        split
        · exact ⟨by show w.length < 20; omega, by show second < 20; omega⟩
        · exact smallR _ (List.mem_of_getElem? (rowAt_eq hi))
      · rw [List.mem_singleton] at hr
        subst hr
        omega
    · repeat fail
      refine wp_item (item_listN (row_get' h1)) ?_
      repeat fail
      refine wp_bin (add_list (by simp; omega)) ?_
      repeat fail
      refine fin _ (w ++ [rowAt w one]) _ (by simp [rowsD]) ⟨fun r hr => ?_, by simp; omega⟩
      rcases List.mem_append.mp hr with hr | hr
      · exact smallR r hr
      · rw [List.mem_singleton] at hr
        subst hr
        exact smallR _ (List.mem_of_getElem? (rowAt_eq h1))
    · repeat fail
      refine wp_slice (slice_to l1) ?_
      repeat fail
      obtain ⟨g1, hg, c3⟩ := take_bag0 (S := S) (k := k) (h := h + 1 + 1) (xs := xs) n w.length hk hx hne
      refine wp_of c3 ?_
      repeat fail
      refine wp_bin (add_list (by simp; omega)) ?_
      repeat fail
      refine wp_slice (slice_from1 l2) ?_
      repeat fail
      refine wp_bin (add_list (by simp; omega)) ?_
      repeat fail
      exact fin _ _ _ (midD (g1, second, kind)) (mid (g1, second, kind) ⟨by show g1 < 20; omega, by show second < 20; omega⟩)
    · repeat fail
      refine wp_slice (slice_to l1) ?_
      repeat fail
      obtain ⟨g1, hg, c3⟩ := take_bag0 (S := S) (k := k) (h := h + 1 + 1) (xs := xs) n w.length hk hx hne
      refine wp_of c3 ?_
      repeat fail
      refine wp_bin (add_list (by simp; omega)) ?_
      repeat fail
      refine wp_slice (slice_from1 l2) ?_
      repeat fail
      refine wp_bin (add_list (by simp; omega)) ?_
      repeat fail
      exact fin _ _ _ (midD (zero, g1, kind)) (mid (zero, g1, kind) ⟨by show zero < 20; omega, by show g1 < 20; omega⟩)
    · repeat fail
      obtain ⟨g1, hg, c3⟩ := take_bag0 (S := S) (k := k) (h := h + 1 + 1) (xs := xs) n 3 hk hx (by omega)
      refine wp_of c3 ?_
      repeat fail
      obtain ⟨k3, hk3⟩ : ∃ k3, ([.str "open", .str "whole", .str "dead"] : List PyData)[g1]? = some (kdD k3) := by
        rcases g1 with _ | _ | _ | g1
        · exact ⟨.op, rfl⟩
        · exact ⟨.wh, rfl⟩
        · exact ⟨.de, rfl⟩
        · omega
      refine wp_item (item_listN hk3) ?_
      repeat fail
      refine wp_slice (slice_to l1) ?_
      repeat fail
      refine wp_bin (add_list (by simp; omega)) ?_
      repeat fail
      refine wp_slice (slice_from1 l2) ?_
      repeat fail
      refine wp_bin (add_list (by simp; omega)) ?_
      repeat fail
      exact fin _ _ _ (midD (zero, second, k3)) (mid (zero, second, k3) ⟨by show zero < 20; omega, by show second < 20; omega⟩)
    · repeat fail
      refine wp_slice (slice_to l1) ?_
      repeat fail
      refine wp_slice (slice_from1 l2) ?_
      repeat fail
      refine wp_bin (add_list (by simp; omega)) ?_
      repeat fail
      refine fin _ (w.take one ++ w.drop (one + 1)) _ (by simp [rowsD, List.map_take, List.map_drop]) ⟨fun r hr => ?_, by simp; omega⟩
      rcases List.mem_append.mp hr with hr | hr
      · exact smallR r (List.mem_of_mem_take hr)
      · exact smallR r (List.mem_of_mem_drop hr)
    · repeat fail
      refine wp_walkV walk_rows ?_
      repeat fail
      refine wp_compA (fun i => .dat (rowD (go w i true, go w i false, kd w i))) (by omega) (fun i hi => ?_) ?_
      · repeat fail
        exact ⟨rfl, rfl⟩
      refine wp_newList (new_lst fun i _ => rfl) ?_
      repeat fail
      refine fin _ ((List.range w.length).map fun i => (go w i true, go w i false, kd w i)) _ (by simp [rowsD, lst, List.map_map, Function.comp_def]) ⟨fun r hr => ?_, by simp; omega⟩
      obtain ⟨i, hi, rfl⟩ := List.mem_map.mp hr
      have hi : i < w.length := by simpa using hi
      have a1 := F.lt i false hi
      have a2 := F.lt i true hi
      exact ⟨by show go w i true < 20; omega, by show go w i false < 20; omega⟩
    · repeat fail
      refine wp_turned turned_list ?_
      repeat fail
      refine fin _ w.reverse _ (by simp [rowsD, List.map_reverse]) ⟨fun r hr => smallR r (by simpa using hr), by simp; omega⟩
    · omega
  obtain ⟨a, S', h1, h', rs, h2, rfl, rfl⟩ := ex_of_wp key
  exact ⟨h', rs, h2, h1⟩
end K29
end

section
set_option Elab.async false
set_option linter.all false
set_option maxRecDepth 100000
set_option maxHeartbeats 2000000
set_option autoImplicit false
/-! KL19: odd values. -/
open PySem L2 Mp Mp.Q KM
local macro_rules
  | `(tactic| fail) => `(tactic| first
    | with_reducible refine wp_nxS ?_
    | with_reducible refine wp_rtS ?_
    | with_reducible refine wp_bkS ?_
    | with_reducible refine wp_ctS ?_
    | with_reducible refine wp_xcS ?_
    | with_reducible refine wp_nxF ?_
    | with_reducible refine wp_ctF ?_
    | with_reducible refine wp_bkF ?_
    | with_reducible refine wp_rtF ?_
    | with_reducible refine wp_xcF ?_
    | with_reducible refine wp_nxD ?_
    | with_reducible refine wp_rtD ?_
    | with_reducible refine wp_rtC ?_
    | with_reducible refine wp_rtO ?_
    | with_reducible refine wp_xcD ?_
    | with_reducible refine wp_ret ?_
    | with_reducible refine wp_seq ?_
    | with_reducible refine wp_bndE ?_
    | with_reducible refine wp_bnd ?_
    | ((with_reducible apply wp_getS); · rfl)
    | with_reducible refine wp_evs_cons ?_
    | with_reducible refine wp_evs_nil ?_
    | with_reducible refine wp_tup ?_
    | with_reducible refine wp_and1 ?_
    | with_reducible refine wp_and ?_
    | with_reducible refine wp_or1 ?_
    | with_reducible refine wp_or ?_
    | with_reducible refine wp_boolV1 ?_
    | with_reducible refine wp_boolA ?_
    | with_reducible refine wp_boolO ?_
    | with_reducible refine wp_opt ?_
    | with_reducible refine optQ_int ?_
    | with_reducible refine wp_listD ?_
    | with_reducible refine wp_listL ?_
    | refine ⟨[], rfl, Nat.le_of_ble_eq_true rfl, ?_⟩
    | refine ⟨[_], rfl, Nat.le_of_ble_eq_true rfl, ?_⟩
    | refine ⟨[_, _], rfl, Nat.le_of_ble_eq_true rfl, ?_⟩
    | refine ⟨[_, _, _], rfl, Nat.le_of_ble_eq_true rfl, ?_⟩
    | refine ⟨[_, _, _, _], rfl, Nat.le_of_ble_eq_true rfl, ?_⟩
    | refine ⟨[_, _, _, _, _], rfl, Nat.le_of_ble_eq_true rfl, ?_⟩
    | refine ⟨[_, _, _, _, _, _], rfl, Nat.le_of_ble_eq_true rfl, ?_⟩
    | refine ⟨[_, _, _, _, _, _, _], rfl, Nat.le_of_ble_eq_true rfl, ?_⟩
    | refine ⟨[_, _, _, _, _, _, _, _], rfl, Nat.le_of_ble_eq_true rfl, ?_⟩
    | refine ⟨[_, _, _, _, _, _, _, _, _], rfl, Nat.le_of_ble_eq_true rfl, ?_⟩
    | refine ⟨[_, _, _, _, _, _, _, _, _, _], rfl, Nat.le_of_ble_eq_true rfl, ?_⟩
    | refine ⟨[_, _, _, _, _, _, _, _, _, _, _], rfl, Nat.le_of_ble_eq_true rfl, ?_⟩
    | ((with_reducible apply wp_blt); · with_reducible exact len_lst)
    | ((with_reducible apply wp_walkV); · with_reducible exact walk_lst)
    | ((with_reducible apply wp_enum); · with_reducible exact enum_lst)
    | ((with_reducible apply wp_cmp); · with_reducible exact eq_int)
    | ((with_reducible apply wp_cmp); · with_reducible exact ne_int)
    | ((with_reducible apply wp_bin); · with_reducible exact bin_add)
    | ((with_reducible apply wp_bin); · with_reducible exact bin_sub)
    | ((with_reducible apply wp_bin); · with_reducible exact bin_mod (by decide))
    | ((with_reducible apply wp_bin); · with_reducible exact bin_fdiv (by decide) (by decide))
    | ((with_reducible apply wp_bin); · with_reducible exact bin_pow (by decide))
    | ((with_reducible apply wp_cmp); · rfl)
    | ((with_reducible apply wp_truth); · rfl)
    | ((with_reducible apply wp_asBool); · rfl)
    | ((with_reducible apply wp_isi); · rfl)
    | ((with_reducible apply wp_neg); · rfl)
    | ((with_reducible apply wp_asgTup); · rfl)
    | ((with_reducible apply wp_item); · with_reducible exact item_lst (by omega))
    | ((with_reducible apply wp_item); · rfl)
    | ((with_reducible refine wp_condT ?_ ?_); · rfl)
    | ((with_reducible refine wp_condF ?_ ?_); · rfl))
namespace Mp.Q
theorem tuple_list {S : Store} {l : Bool} {ds : List PyData} : blt l "tuple" [.dat (.list ds)] S = .ok (.dat (.tuple ds)) S := by
  have e : blt l "tuple" [.dat (.list ds)] S = (match allDat (ds.map W.dat) with
    | some ds => ret (.dat (.tuple ds)) S
    | none => .stuck) := rfl
  rw [e, allDat_map]
  rfl
theorem wp_compD {S : Store} {E : Xc → Store → Prop} {e : Slots → M W} {a : W → M Slots} {Q : List W → Store → Prop} {ds : List PyData} (f : PyData → PyData) (hn : ds.length ≤ 900000)
    (h : ∀ d ∈ ds, wp (a (.dat d)) S (fun g S1 => wp (e g) S1 (fun y S2 => y = .dat (f d) ∧ S2 = S) noE) E) (q : Q ((ds.map f).map W.dat) S) : wp (compW (fun g => ret true) e a (.list (ds.map W.dat)) walkFuel 0 []) S Q E := by
  have e1 : ds.map W.dat = (List.range ds.length).map fun i => W.dat (ds.getD i .none) := by
    refine List.ext_getElem? fun i => ?_
    by_cases hi : i < ds.length
    · rw [List.getElem?_map, List.getElem?_map, List.getElem?_range hi, List.getElem?_eq_getElem hi]
      simp [List.getD_eq_getElem?_getD, List.getElem?_eq_getElem hi]
    · rw [List.getElem?_eq_none (by simp; omega), List.getElem?_eq_none (by simp; omega)]
  have e2 : (ds.map f).map W.dat = (List.range ds.length).map fun i => W.dat (f (ds.getD i .none)) := by
    rw [List.map_map]
    refine List.ext_getElem? fun i => ?_
    by_cases hi : i < ds.length
    · rw [List.getElem?_map, List.getElem?_map, List.getElem?_range hi, List.getElem?_eq_getElem hi]
      simp [List.getD_eq_getElem?_getD, List.getElem?_eq_getElem hi]
    · rw [List.getElem?_eq_none (by simp; omega), List.getElem?_eq_none (by simp; omega)]
  rw [e1]
  rw [e2] at q
  refine wp_compA (fun i => W.dat (f (ds.getD i .none))) hn (fun i hi => h _ ?_) q
  rw [List.getD_eq_getElem?_getD, List.getElem?_eq_getElem hi]
  exact List.getElem_mem hi
end Mp.Q
namespace K29
/-- so deep, so large, sayable -/
structure It (n c : Nat) (d : PyData) : Prop where
  lay : d.canLay0 = true
  deep : d.depth ≤ n
  say : sayB d = true
  size : sz d ≤ c
theorem It.mono {n c m e : Nat} {d : PyData} (h : It n c d) (hn : n ≤ m) (hc : c ≤ e) : It m e d := ⟨h.lay, Nat.le_trans h.deep hn, h.say, Nat.le_trans h.size hc⟩
theorem it_all {n c : Nat} : ∀ {ds : List PyData}, (∀ d ∈ ds, It n c d) → PyData.canLayAll0 ds = true ∧ PyData.depthAll ds ≤ n ∧ sayAll ds = true ∧ szAll ds ≤ ds.length * (c + 2)
  | [], _ => by simp [PyData.canLayAll0, PyData.depthAll, sayAll, szAll]
  | d :: ds, h => by
    have h1 := h d (by simp)
    have ⟨a1, a2, a3, a4⟩ := it_all (ds := ds) fun d hd => h d (by simp [hd])
    simp only [PyData.canLayAll0, PyData.depthAll, sayAll, szAll, h1.lay, h1.say, a1, a3, List.length_cons]
    have := h1.deep
    have := h1.size
    refine ⟨rfl, by omega, rfl, ?_⟩
    rw [Nat.add_mul]
    omega
theorem it_tup {n c : Nat} {ds : List PyData} (h : ∀ d ∈ ds, It n c d) (hl : ds.length ≤ 20) : It (n + 1) (5 + 20 * (c + 2)) (.tuple ds) := by
  have ⟨a1, a2, a3, a4⟩ := it_all h
  have : ds.length * (c + 2) ≤ 20 * (c + 2) := Nat.mul_le_mul_right _ hl
  exact ⟨by simp only [PyData.canLay0]; exact a1, by simp only [PyData.depth]; omega, by simp only [sayB]; exact a3, by simp only [sz]; omega⟩
theorem it_lst {n c : Nat} {ds : List PyData} (h : ∀ d ∈ ds, It n c d) (hl : ds.length ≤ 20) : It (n + 1) (5 + 20 * (c + 2)) (.list ds) := by
  have ⟨a1, a2, a3, a4⟩ := it_all h
  have : ds.length * (c + 2) ≤ 20 * (c + 2) := Nat.mul_le_mul_right _ hl
  exact ⟨by simp only [PyData.canLay0]; exact a1, by simp only [PyData.depth]; omega, by simp only [sayB]; exact a3, by simp only [sz]; omega⟩
theorem it_int {n : Nat} {i : Int} (h : sayI i = true) : It n 40 (.int i) := ⟨by simp [PyData.canLay0], by simp [PyData.depth], by simp only [sayB]; exact h, by simp [sz]⟩
theorem it_nat {n a : Nat} (h : a < 100) : It n 40 (nD a) := it_int (by
  unfold sayI
  rw [decide_eq_true (show (-1 : Int) ≤ (a : Int) by omega), decide_eq_true (show (a : Int) < 100 by omega)]
  rfl)
theorem it_bool {n : Nat} {b : Bool} : It n 40 (.bool b) := ⟨by simp [PyData.canLay0], by simp [PyData.depth], by simp only [sayB], by simp [sz]⟩
theorem it_none {n : Nat} : It n 40 .none := ⟨by simp [PyData.canLay0], by simp [PyData.depth], by simp only [sayB], by simp [sz]⟩
theorem it_str {n : Nat} {x : Str} (h : sayS x = true) : It n 40 (.str x) := ⟨by simp only [PyData.canLay0]; exact (sayS_ok x h).2.2, by simp [PyData.depth], by simp only [sayB]; exact h, by simp [sz]⟩
theorem it_kd {n : Nat} {k : Kd} : It n 40 (kdD k) := it_str (by cases k <;> decide +kernel)
theorem it_nil {P : PyData → Prop} : ∀ d ∈ ([] : List PyData), P d := fun _ h => by cases h
theorem it_cons {P : PyData → Prop} {d : PyData} {ds : List PyData} (h : P d) (t : ∀ d ∈ ds, P d) : ∀ x ∈ d :: ds, P x := fun x hx => by
  rcases List.mem_cons.mp hx with rfl | hx
  · exact h
  · exact t x hx
theorem it_app {P : PyData → Prop} {as bs : List PyData} (h : ∀ d ∈ as, P d) (t : ∀ d ∈ bs, P d) : ∀ x ∈ as ++ bs, P x := fun x hx => by
  rcases List.mem_append.mp hx with hx | hx
  · exact h x hx
  · exact t x hx
theorem it_row {r : Row} (h : r.1 < 100 ∧ r.2.1 < 100) : It 1 845 (rowD r) := (it_tup (n := 0) (c := 40) (it_cons (it_nat h.1) (it_cons (it_nat h.2) (it_cons it_kd it_nil))) (by simp)).mono (by omega) (by omega)
theorem it_rows {rs : List Row} (h : ∀ r ∈ rs, r.1 < 100 ∧ r.2.1 < 100) : ∀ d ∈ rs.map rowD, It 1 845 d := fun d hd => by
  obtain ⟨r, hr, rfl⟩ := List.mem_map.mp hd
  exact it_row (h r hr)
theorem told_of {v : PyData} (h : It 40 1000000 v) (hl : ∀ ds, v = .list ds → ds.length ≤ 900) : Told v := ⟨⟨h.lay, h.deep⟩, h.say, h.size, hl⟩
theorem told_list {ds : List PyData} (h : ∀ d ∈ ds, It 2 16945 d) (hl : ds.length ≤ 20) : Told (.list ds) := told_of ((it_lst h hl).mono (by omega) (by omega)) fun ds' e => by injection e with e; subst e; omega
theorem small_told {rs : List Row} (h : Small rs) : Told (rowsD rs) := told_list (fun d hd => (it_rows (fun r hr => by have := h.1 r hr; omega) d hd).mono (by omega) (by omega)) (by have := h.2; simpa using this)
theorem odd_ok (n k h : Nat) (xs : List Int) (w : List Row) (S : Store) (hk : k < S.length) (hx : xs.length = 50) (F : Formed w) (hM : w.length ≤ 11) :
    ∃ h' v, Told v ∧ calls G ds (n + 2) "_law_odd" [.obj k, .dat (rowsD w)] (bg S k h xs) = .ok (.dat v) (bg S k h' xs) := by
  have key : wp (calls G ds (n + 2) "_law_odd" [.obj k, .dat (rowsD w)]) (bg S k h xs) (fun a S' => ∃ h' v, Told v ∧ a = .dat v ∧ S' = bg S k h' xs) noE := by
    have hne := F.ne
    have wb := row_mem F
    refine c_law_odd ?_
    unfold p_law_odd
    repeat fail
    refine wp_blt len_list ?_
    rw [List.length_map]
    repeat fail
    obtain ⟨one, h1, c1⟩ := take_bag0 (S := S) (k := k) (h := h) (xs := xs) n w.length hk hx hne
    refine wp_of c1 ?_
    repeat fail
    refine wp_item (item_listN (row_get' h1)) ?_
    have hr := wb _ (List.mem_of_getElem? (rowAt_eq h1))
    have e1 : rowD (rowAt w one) = .tuple [nD (rowAt w one).1, nD (rowAt w one).2.1, kdD (rowAt w one).2.2] := rfl
    generalize hrow : rowAt w one = row at hr e1
    obtain ⟨zero, second, kind⟩ := row
    have hz : zero < w.length := hr.1
    have hs : second < w.length := hr.2
    rw [e1]
    repeat fail
    refine wp_blt len_list ?_
    rw [List.length_map]
    repeat fail
    refine wp_bin (add_list (by simp)) ?_
    repeat fail
    refine wp_bin (add_list (by simp)) ?_
    repeat fail
    refine wp_bin (add_list (by simp)) ?_
    repeat fail
    refine wp_walkV walk_list ?_
    repeat fail
    have l1 : one ≤ (w.map rowD).length := by simp; omega
    have l2 : one + 1 ≤ (w.map rowD).length := by simp; omega
    refine wp_compD (fun b => .list ((w.map rowD).take one ++ [b] ++ (w.map rowD).drop (one + 1))) (by simp) (fun b hb => ?_) ?_
    · repeat fail
      refine wp_slice (slice_to l1) ?_
      repeat fail
      refine wp_bin (add_list (by simp; omega)) ?_
      repeat fail
      refine wp_slice (slice_from1 l2) ?_
      repeat fail
      refine wp_bin (add_list (by simp; omega)) ?_
      exact ⟨rfl, rfl⟩
    refine wp_newList newList_dat ?_
    repeat fail
    refine wp_blt tuple_list ?_
    repeat fail
    refine wp_bin (add_list (by simp)) ?_
    repeat fail
    refine wp_blt len_list ?_
    repeat fail
    have hB : ∀ b ∈ ([.tuple [.bool true, nD second, kdD kind], .tuple [nD zero, .bool false, kdD kind], .tuple [.str "0", nD second, kdD kind], .tuple [nD zero, .none, kdD kind], .tuple [.int (-1), nD second, kdD kind]] ++ [.tuple [nD zero, nD w.length, kdD kind], .tuple [nD zero, .int (10 ^ Int.toNat 30), kdD kind], .list [nD zero, nD second, kdD kind], .tuple [nD zero, nD second]] ++ [.tuple [nD zero, nD second, kdD kind, kdD kind], .tuple [nD zero, nD second, .str "opened"], .tuple [nD zero, nD second, .none], .tuple [nD zero, nD second, .str ""]] ++ [.none, .int 5, .str "row", .tuple [], .tuple [nD zero, nD second, .bool true], .tuple [nD zero, nD second, .list [.str "open"]]] : List PyData), It 2 16945 b := by
      have z : ∀ n, It n 40 (nD zero) := fun n => it_nat (by omega)
      have s : ∀ n, It n 40 (nD second) := fun n => it_nat (by omega)
      have l : ∀ n, It n 40 (nD w.length) := fun n => it_nat (by omega)
      have kk : ∀ n, It n 40 (kdD kind) := fun n => it_kd
      have u : ∀ xs : List PyData, xs.length ≤ 20 → (∀ d ∈ xs, It 0 40 d) → It 2 16945 (.tuple xs) := fun xs hl hx => (it_tup hx hl).mono (by omega) (by omega)
      have m : ∀ n d, It n 40 d → It 2 16945 d → It 2 16945 d := fun _ _ _ h => h
      refine it_app (it_app (it_app ?_ ?_) ?_) ?_
      · refine it_cons (u _ (by simp) ?_) (it_cons (u _ (by simp) ?_) (it_cons (u _ (by simp) ?_) (it_cons (u _ (by simp) ?_) (it_cons (u _ (by simp) ?_) it_nil))))
        · exact it_cons it_bool (it_cons (s _) (it_cons (kk _) it_nil))
        · exact it_cons (z _) (it_cons it_bool (it_cons (kk _) it_nil))
        · exact it_cons (it_str (by decide +kernel)) (it_cons (s _) (it_cons (kk _) it_nil))
        · exact it_cons (z _) (it_cons it_none (it_cons (kk _) it_nil))
        · exact it_cons (it_int (by decide +kernel)) (it_cons (s _) (it_cons (kk _) it_nil))
      · refine it_cons (u _ (by simp) ?_) (it_cons (u _ (by simp) ?_) (it_cons ?_ (it_cons (u _ (by simp) ?_) it_nil)))
        · exact it_cons (z _) (it_cons (l _) (it_cons (kk _) it_nil))
        · exact it_cons (z _) (it_cons (it_int (by decide +kernel)) (it_cons (kk _) it_nil))
        · exact (it_lst (n := 0) (c := 40) (it_cons (z _) (it_cons (s _) (it_cons (kk _) it_nil))) (by simp)).mono (by omega) (by omega)
        · exact it_cons (z _) (it_cons (s _) it_nil)
      · refine it_cons (u _ (by simp) ?_) (it_cons (u _ (by simp) ?_) (it_cons (u _ (by simp) ?_) (it_cons (u _ (by simp) ?_) it_nil)))
        · exact it_cons (z _) (it_cons (s _) (it_cons (kk _) (it_cons (kk _) it_nil)))
        · exact it_cons (z _) (it_cons (s _) (it_cons (it_str (by decide +kernel)) it_nil))
        · exact it_cons (z _) (it_cons (s _) (it_cons it_none it_nil))
        · exact it_cons (z _) (it_cons (s _) (it_cons (it_str (by decide +kernel)) it_nil))
      · refine it_cons (it_none.mono (Nat.le_refl 2) (by omega)) (it_cons ((it_int (n := 2) (by decide +kernel)).mono (by omega) (by omega)) (it_cons ((it_str (n := 2) (by decide +kernel)).mono (by omega) (by omega)) (it_cons (u _ (by simp) it_nil) (it_cons (u _ (by simp) ?_) (it_cons ?_ it_nil)))))
        · exact it_cons (z _) (it_cons (s _) (it_cons it_bool it_nil))
        · refine (it_tup (n := 1) (c := 845) (it_cons ((z 1).mono (by omega) (by omega)) (it_cons ((s 1).mono (by omega) (by omega)) (it_cons ?_ it_nil))) (by simp)).mono (by omega) (by omega)
          exact (it_lst (n := 0) (c := 40) (it_cons (it_str (by decide +kernel)) it_nil) (by simp)).mono (by omega) (by omega)
    have hrows : ∀ d ∈ w.map rowD, It 1 845 d := it_rows fun r hr => by have := wb r hr; omega
    have hE : ∀ v ∈ ([.tuple (w.map rowD), .list [], .none, .bool true, .int 0, .str "rows", .tuple [], .list [.list []], .list [.list (w.map rowD)], .list [.tuple [.int 0, .int 0]], .list [.tuple [.str "open", .int 0, .int 0]]] : List PyData), Told v := by
      have q : ∀ v, It 2 16945 v → (∀ ds, v ≠ .list ds) → Told v := fun v hv hn => told_of (hv.mono (by omega) (by omega)) fun ds e => absurd e (hn ds)
      have i0 : ∀ n, It n 40 (.int 0) := fun n => it_int (by decide +kernel)
      have hwl : (w.map rowD).length ≤ 20 := by simp; omega
      refine it_cons (q _ (it_tup hrows hwl) (fun _ e => by cases e)) (it_cons (told_list it_nil (by simp)) (it_cons (q _ (it_none.mono (Nat.le_refl 2) (by omega)) (fun _ e => by cases e)) (it_cons (q _ (it_bool.mono (Nat.le_refl 2) (by omega)) (fun _ e => by cases e)) (it_cons (q _ ((i0 2).mono (by omega) (by omega)) (fun _ e => by cases e)) (it_cons (q _ ((it_str (n := 2) (by decide +kernel)).mono (by omega) (by omega)) (fun _ e => by cases e)) (it_cons (q _ ((it_tup (n := 1) (c := 845) it_nil (by simp)).mono (by omega) (by omega)) (fun _ e => by cases e)) (it_cons ?_ (it_cons ?_ (it_cons ?_ (it_cons ?_ it_nil))))))))))
      · exact told_list (it_cons ((it_lst (n := 1) (c := 845) it_nil (by simp)).mono (by omega) (by omega)) it_nil) (by simp)
      · exact told_list (it_cons (it_lst hrows hwl) it_nil) (by simp)
      · exact told_list (it_cons ((it_tup (n := 0) (c := 40) (it_cons (i0 _) (it_cons (i0 _) it_nil)) (by simp)).mono (by omega) (by omega)) it_nil) (by simp)
      · exact told_list (it_cons ((it_tup (n := 0) (c := 40) (it_cons (it_str (by decide +kernel)) (it_cons (i0 _) (it_cons (i0 _) it_nil))) (by simp)).mono (by omega) (by omega)) it_nil) (by simp)
    obtain ⟨T, eT, hT⟩ : ∃ T : List PyData, T = _ ∧ ∀ v ∈ T, Told v := ⟨_, rfl, it_app (as := ([.tuple [.bool true, nD second, kdD kind], .tuple [nD zero, .bool false, kdD kind], .tuple [.str "0", nD second, kdD kind], .tuple [nD zero, .none, kdD kind], .tuple [.int (-1), nD second, kdD kind]] ++ [.tuple [nD zero, nD w.length, kdD kind], .tuple [nD zero, .int (10 ^ Int.toNat 30), kdD kind], .list [nD zero, nD second, kdD kind], .tuple [nD zero, nD second]] ++ [.tuple [nD zero, nD second, kdD kind, kdD kind], .tuple [nD zero, nD second, .str "opened"], .tuple [nD zero, nD second, .none], .tuple [nD zero, nD second, .str ""]] ++ [.none, .int 5, .str "row", .tuple [], .tuple [nD zero, nD second, .bool true], .tuple [nD zero, nD second, .list [.str "open"]]] : List PyData).map fun b => .list ((w.map rowD).take one ++ [b] ++ (w.map rowD).drop (one + 1))) (fun v hv => by
      obtain ⟨b, hb, rfl⟩ := List.mem_map.mp hv
      have ib := hB b hb
      show Told (.list ((w.map rowD).take one ++ [b] ++ (w.map rowD).drop (one + 1)))
      refine told_list (it_app (it_app (fun d hd => ?_) (it_cons ib it_nil)) (fun d hd => ?_)) (by simp; omega)
      · exact (hrows d (List.mem_of_mem_take hd)).mono (by omega) (by omega)
      · exact (hrows d (List.mem_of_mem_drop hd)).mono (by omega) (by omega)) hE⟩
    obtain ⟨q, hq, c2⟩ := take_bag0 (S := S) (k := k) (h := h + 1) (xs := xs) n T.length hk hx (by rw [eT]; simp)
    subst eT
    refine wp_of c2 ?_
    repeat fail
    refine wp_item (item_listN (List.getElem?_eq_getElem hq)) ?_
    repeat fail
    refine ⟨h + 1 + 1, _, hT _ (List.getElem_mem hq), rfl, ?_⟩
    rw [bg_len, ← bg_len (S := S) (k := k) (h := h + 1 + 1) (xs := xs), List.take_length]
  obtain ⟨a, S', h1, h', v, h2, rfl, rfl⟩ := ex_of_wp key
  exact ⟨h', v, h2, h1⟩
end K29
end

section
set_option Elab.async false
set_option linter.all false
set_option maxRecDepth 100000
set_option maxHeartbeats 2000000
set_option autoImplicit false
/-! KL20: the law. -/
open PySem L2 Mp Mp.Q KM
local macro_rules
  | `(tactic| fail) => `(tactic| first
    | with_reducible refine wp_nxS ?_
    | with_reducible refine wp_rtS ?_
    | with_reducible refine wp_bkS ?_
    | with_reducible refine wp_ctS ?_
    | with_reducible refine wp_xcS ?_
    | with_reducible refine wp_nxF ?_
    | with_reducible refine wp_ctF ?_
    | with_reducible refine wp_bkF ?_
    | with_reducible refine wp_rtF ?_
    | with_reducible refine wp_xcF ?_
    | with_reducible refine wp_nxD ?_
    | with_reducible refine wp_rtD ?_
    | with_reducible refine wp_rtC ?_
    | with_reducible refine wp_rtO ?_
    | with_reducible refine wp_xcD ?_
    | with_reducible refine wp_ret ?_
    | with_reducible refine wp_seq ?_
    | with_reducible refine wp_bndE ?_
    | with_reducible refine wp_bnd ?_
    | ((with_reducible apply wp_getS); · rfl)
    | with_reducible refine wp_evs_cons ?_
    | with_reducible refine wp_evs_nil ?_
    | with_reducible refine wp_tup ?_
    | with_reducible refine wp_and1 ?_
    | with_reducible refine wp_and ?_
    | with_reducible refine wp_or1 ?_
    | with_reducible refine wp_or ?_
    | with_reducible refine wp_boolV1 ?_
    | with_reducible refine wp_boolA ?_
    | with_reducible refine wp_boolO ?_
    | with_reducible refine wp_opt ?_
    | with_reducible refine optQ_int ?_
    | with_reducible refine wp_listD ?_
    | with_reducible refine wp_listL ?_
    | refine ⟨[], rfl, Nat.le_of_ble_eq_true rfl, ?_⟩
    | refine ⟨[_], rfl, Nat.le_of_ble_eq_true rfl, ?_⟩
    | refine ⟨[_, _], rfl, Nat.le_of_ble_eq_true rfl, ?_⟩
    | refine ⟨[_, _, _], rfl, Nat.le_of_ble_eq_true rfl, ?_⟩
    | refine ⟨[_, _, _, _], rfl, Nat.le_of_ble_eq_true rfl, ?_⟩
    | refine ⟨[_, _, _, _, _], rfl, Nat.le_of_ble_eq_true rfl, ?_⟩
    | refine ⟨[_, _, _, _, _, _], rfl, Nat.le_of_ble_eq_true rfl, ?_⟩
    | refine ⟨[_, _, _, _, _, _, _], rfl, Nat.le_of_ble_eq_true rfl, ?_⟩
    | refine ⟨[_, _, _, _, _, _, _, _], rfl, Nat.le_of_ble_eq_true rfl, ?_⟩
    | refine ⟨[_, _, _, _, _, _, _, _, _], rfl, Nat.le_of_ble_eq_true rfl, ?_⟩
    | refine ⟨[_, _, _, _, _, _, _, _, _, _], rfl, Nat.le_of_ble_eq_true rfl, ?_⟩
    | refine ⟨[_, _, _, _, _, _, _, _, _, _, _], rfl, Nat.le_of_ble_eq_true rfl, ?_⟩
    | ((with_reducible apply wp_blt); · with_reducible exact len_lst)
    | ((with_reducible apply wp_walkV); · with_reducible exact walk_lst)
    | ((with_reducible apply wp_enum); · with_reducible exact enum_lst)
    | ((with_reducible apply wp_cmp); · with_reducible exact eq_int)
    | ((with_reducible apply wp_cmp); · with_reducible exact ne_int)
    | ((with_reducible apply wp_bin); · with_reducible exact bin_add)
    | ((with_reducible apply wp_bin); · with_reducible exact bin_sub)
    | ((with_reducible apply wp_bin); · with_reducible exact bin_mod (by decide))
    | ((with_reducible apply wp_bin); · with_reducible exact bin_fdiv (by decide) (by decide))
    | ((with_reducible apply wp_bin); · with_reducible exact bin_pow (by decide))
    | ((with_reducible apply wp_cmp); · rfl)
    | ((with_reducible apply wp_truth); · rfl)
    | ((with_reducible apply wp_asBool); · rfl)
    | ((with_reducible apply wp_isi); · rfl)
    | ((with_reducible apply wp_neg); · rfl)
    | ((with_reducible apply wp_asgTup); · rfl)
    | ((with_reducible apply wp_item); · with_reducible exact item_lst (by omega))
    | ((with_reducible apply wp_item); · rfl)
    | ((with_reducible refine wp_condT ?_ ?_); · rfl)
    | ((with_reducible refine wp_condF ?_ ?_); · rfl))
namespace Mp.Q
section
variable {S : Store} {k : Nat} {ds es : List PyData}
theorem add_objL (h : S[k]? = some (some (.lst (ds.map W.dat)))) (hz : ds.length + es.length ≤ 1000000) : binOp true .Add (.obj k) (.dat (.list es)) S = .ok (.obj S.length) (S ++ [some (.lst ((ds ++ es).map W.dat))]) := by
  have e : binOp true .Add (.obj k) (.dat (.list es)) S = (match seqOf S (.obj k), seqOf S (.dat (.list es)) with
      | some (true, xs), some (true, ys) => if roomy (xs.length + ys.length) = true then newList true (xs ++ ys) S else .stuck
      | _, _ => .stuck) := rfl
  have e2 : seqOf S (.dat (.list es)) = some (true, es.map W.dat) := rfl
  have r : roomy ((ds.map W.dat).length + (es.map W.dat).length) = true := by rw [List.length_map, List.length_map]; exact decide_eq_true hz
  rw [e, seq_obj h, e2]
  simp only [r, if_true]
  rw [← List.map_append, newList_live below_map]
theorem add_listL (hz : ds.length + es.length ≤ 1000000) : binOp true .Add (.dat (.list ds)) (.dat (.list es)) S = .ok (.obj S.length) (S ++ [some (.lst ((ds ++ es).map W.dat))]) := by
  have e : binOp true .Add (.dat (.list ds)) (.dat (.list es)) S = (if roomy ((ds.map W.dat).length + (es.map W.dat).length) = true then newList true (ds.map W.dat ++ es.map W.dat) S else .stuck) := rfl
  have r : roomy ((ds.map W.dat).length + (es.map W.dat).length) = true := by rw [List.length_map, List.length_map]; exact decide_eq_true hz
  rw [e, if_pos r, ← List.map_append, newList_live below_map]
theorem add_con {ns : List Int} (hz : ns.length + es.length ≤ 1000000) : binOp false .Add (.con (.list (ns.map PyData.int))) (.dat (.list es)) S = .ok (.dat (.list (ns.map PyData.int ++ es))) S := by
  have e : binOp false .Add (.con (.list (ns.map PyData.int))) (.dat (.list es)) S = (if roomy (((ns.map PyData.int).map mkC).length + (es.map W.dat).length) = true then newList false ((ns.map PyData.int).map mkC ++ es.map W.dat) S else .stuck) := rfl
  have m : (ns.map PyData.int).map mkC = (ns.map PyData.int).map W.dat := by
    rw [List.map_map, List.map_map]
    rfl
  have r : roomy (((ns.map PyData.int).map W.dat).length + (es.map W.dat).length) = true := decide_eq_true (by simpa using hz)
  rw [e, m, if_pos r, ← List.map_append, newList_dat]
theorem slice_any {i : Nat} : sliceOf false (.dat (.list ds)) none (some ((i : Nat) : Int)) S = .ok (.dat (.list (ds.take i))) S := by
  have e : sliceOf false (.dat (.list ds)) none (some ((i : Nat) : Int)) S = newList false (cutW (ds.map W.dat) none (some ((i : Nat) : Int))) S := rfl
  have c : cutW (ds.map W.dat) none (some ((i : Nat) : Int)) = (ds.take i).map W.dat := by
    unfold cutW
    rw [HT.sIx_none, HT.sIx_nat, List.length_map, List.drop_zero, Nat.sub_zero, List.map_take]
    rcases Nat.le_total i ds.length with h | h
    · rw [Nat.min_eq_left h]
    · rw [Nat.min_eq_right h, List.take_of_length_le (by simp), List.take_of_length_le (by simpa using h)]
  rw [e, c, newList_dat]
end
end Mp.Q
namespace K29
theorem bg_app {S X : Store} {k h : Nat} {xs : List Int} (hk : k < S.length) : bg S k h xs ++ X = bg (S ++ X) k h xs := by
  unfold bg
  rw [List.set_append_left _ _ hk]
theorem judge_T (n : Nat) (w : List Row) (S : Store) (F : Formed w) (hM : w.length ≤ 900) (ht : Told (rowsD w)) (hl : IsLeast w) : calls G ds (n + 3) "_law_judge" [.dat (rowsD w)] S = .ok (.dat (.bool true)) S := by
  obtain ⟨b, hb, hc⟩ := judge_ok n (rowsD w) S ht
  obtain ⟨C, hC, _⟩ := refined_ok n w.length (go w) (kd w) S F.ne hM F.lt
  have := (hb.2 w rfl F).mpr ⟨hl.1, hl.2.1, C, hC, hl.2.2 C hC⟩
  subst this
  exact hc
def w0 : List Row := [(0, 0, .de)]
def w1 : List Row := [(1, 1, .wh), (1, 1, .de)]
theorem w0_formed : Formed w0 := ⟨by decide, fun i b hi => by
  have hi : i < 1 := hi
  have : i = 0 := by omega
  subst this
  cases b <;> decide⟩
theorem w1_formed : Formed w1 := ⟨by decide, fun i b hi => by
  have hi : i < 2 := hi
  rcases i with _ | _ | i
  · cases b <;> decide
  · cases b <;> decide
  · omega⟩
theorem w0_least : IsLeast w0 := by
  refine ⟨⟨1, by decide, by decide⟩, fun i hi => ?_, fun C hC i j hi hj _ => ?_⟩
  · have hi : i < 1 := hi
    have : i = 0 := by omega
    subst this
    exact ⟨fun h => (by cases h), fun _ b => (by cases b <;> rfl)⟩
  · have hi : i < 1 := hi
    have hj : j < 1 := hj
    omega
theorem w1_least : IsLeast w1 := by
  refine ⟨⟨2, by decide, by decide⟩, fun i hi => ?_, fun C hC i j hi hj e => ?_⟩
  · have hi : i < 2 := hi
    rcases i with _ | _ | i
    · exact ⟨fun h => (by cases h), fun _ b => (by cases b <;> rfl)⟩
    · exact ⟨fun h => (by cases h), fun _ b => (by cases b <;> rfl)⟩
    · omega
  · have hm := hC.mark i j hi hj e
    have hi : i < 2 := hi
    have hj : j < 2 := hj
    rcases i with _ | _ | i <;> rcases j with _ | _ | j
    · rfl
    · cases hm
    · omega
    · cases hm
    · rfl
    · omega
    · omega
    · omega
    · omega
theorem small_of {w : List Row} (F : Formed w) (h : w.length ≤ 20) : Small w := ⟨fun r hr => by have := row_mem F r hr; omega, h⟩
theorem law_ok (n : Nat) (ns : List Int) (wv : W) (S : Store) (hn : ns.length ≤ 63)
    (ha : ∀ S : Store, binOp false .Add wv (.dat (.list [.int 0])) S = .ok (.dat (.list (ns.map PyData.int ++ [.int 0]))) S) : calls G ds (n + 9) "law" [wv] S = .ok (.dat (.bool true)) S := by
  refine eq_of_wp (c_law ?_)
  unfold p_law
  repeat fail
  refine wp_bin (ha S) ?_
  repeat fail
  refine wp_slice (slice_any (i := 6)) ?_
  repeat fail
  refine wp_walkV walk_list ?_
  have ec : (ns.map PyData.int ++ [PyData.int 0]).take 6 = ((ns ++ [0]).take 6).map PyData.int := by
    rw [List.map_take, List.map_append]
    rfl
  rw [ec]
  have hcl : ((ns ++ [0]).take 6).length ≤ 6 := by simp; omega
  generalize (ns ++ [0]).take 6 = cells at hcl
  refine wp_for (fun t g S2 => ∃ x1 x2 x3 x4 x5 x6 x7, g = [some wv, x1, x2, x3, x4, x5, x6, x7] ∧ ∃ T, S2 = S ++ T) ?_ ?_ _ 0 _ _ (by simp [walkFuel]; omega) (by omega) ⟨_, _, _, _, _, _, _, rfl, [], by simp⟩
  · rintro t w g S2 hw ⟨x1, x2, x3, x4, x5, x6, x7, rfl, T, rfl⟩
    obtain ⟨ci, rfl⟩ : ∃ ci : Int, w = .dat (.int ci) := by
      have := List.mem_of_getElem? hw
      rw [List.mem_map] at this
      obtain ⟨d, hd, rfl⟩ := this
      obtain ⟨c, hc, rfl⟩ := List.mem_map.mp hd
      exact ⟨c, rfl⟩
    repeat fail
    refine ⟨Nat.le_of_ble_eq_true rfl, rfl, ?_⟩
    repeat fail
    obtain ⟨xs, hx, cd⟩ := drops_ok (n + 7) ci (S ++ T ++ [some (.lst [.dat (.int 0)])])
    refine wp_of cd ?_
    repeat fail
    have gt : (S ++ T ++ [some (Ob.lst [W.dat (.int 0)])])[(S ++ T).length]? = some (some (.lst (([.int 0] : List PyData).map W.dat))) := get_last
    refine wp_bin (add_objL gt (by simp; omega)) ?_
    -- the store with the bag
    generalize hA : S ++ T ++ [some (Ob.lst [W.dat (.int 0)])] = A
    have eb : A ++ [some (Ob.lst (([PyData.int 0] ++ xs.map PyData.int).map W.dat))] = bg (A ++ [some (.lst (iW ((0 : Nat) :: xs)))]) A.length 0 xs := by
      unfold bg
      rw [set_last]
      simp [iW]
    rw [eb]
    generalize hS0 : A ++ [some (Ob.lst (iW (((0 : Nat) : Int) :: xs)))] = S0
    have hk : A.length < S0.length := by rw [← hS0]; simp
    have hgrow : ∀ h X, ∃ T', bg S0 A.length h xs ++ X = S ++ T' := fun h X => by
      refine ⟨T ++ [some (Ob.lst [W.dat (.int 0)])] ++ [some (.lst (iW ((h : Int) :: xs)))] ++ X, ?_⟩
      unfold bg
      rw [← hS0, set_last, ← hA]
      simp
    generalize A.length = k at hk hgrow
    repeat fail
    obtain ⟨h1, rs, F, hrl, cr⟩ := rows_ok (n + 6) k 0 xs S0 hk hx
    refine wp_of cr ?_
    repeat fail
    obtain ⟨k', z', P, ord, w, M, cl⟩ := least_ok (n + 6) rs 0 (bg S0 k h1 xs) F F.ne (by omega)
    have hwl : w.length ≤ 11 := by rw [M.wlen]; have := M.ord_len; omega
    have Fw := M.wformed
    refine wp_of cl ?_
    repeat fail
    refine wp_blt len_list ?_
    rw [List.length_map]
    repeat fail
    obtain ⟨st, hst, ct⟩ := take_bag0 (S := S0) (k := k) (h := h1) (xs := xs) (n + 7) rs.length hk hx F.ne
    refine wp_of ct ?_
    repeat fail
    obtain ⟨k2', z2', P2, ord2, w2, M2, cl2⟩ := least_ok (n + 6) rs st (bg S0 k (h1 + 1) xs) F hst (by omega)
    have hw2l : w2.length ≤ 11 := by rw [M2.wlen]; have := M2.ord_len; omega
    refine wp_of cl2 ?_
    repeat fail
    refine wp_bin (add_listL (by simp)) ?_
    rw [bg_len]
    repeat fail
    have Tw := small_told (small_of Fw (by omega))
    have T0 := small_told (small_of w0_formed (by decide))
    have T1 := small_told (small_of w1_formed (by decide))
    have t4 : ∀ v ∈ ([rowsD w0, rowsD w1, rowsD [(0, 0, .wh)], rowsD [(0, 0, .op)], rowsD rs, rowsD w, rowsD w2] : List PyData), Told v := by
      refine it_cons T0 (it_cons T1 (it_cons (small_told ⟨by simp, by simp⟩) (it_cons (small_told ⟨by simp, by simp⟩) (it_cons (small_told (small_of F (by omega))) (it_cons Tw (it_cons (small_told (small_of M2.wformed (by omega))) it_nil))))))
    refine wp_range (range_okN (n := 4) (by omega)) ?_
    refine wp_for (fun t g S2 => ∃ (h : Nat) (vs : List PyData) (x6 : Option W), g = [some wv, some (.dat (.int ci)), some (.obj k), some (.dat (rowsD rs)), some (.dat (rowsD w)), some (.obj S0.length), x6, x7] ∧ S2 = bg S0 k h xs ++ [some (.lst (vs.map W.dat))] ∧ (∀ v ∈ vs, Told v) ∧ vs.length = 7 + 2 * t ∧ vs[0]? = some (rowsD w0) ∧ vs[1]? = some (rowsD w1)) ?_ ?_ _ 0 _ _ (by simp [walkFuel]) (by omega) ⟨h1 + 1, _, _, rfl, rfl, t4, rfl, rfl, rfl⟩
    · rintro t wt g S2 hw ⟨h, vs, x6, rfl, rfl, hvs, hvl, hv0, hv1⟩
      have ht : t < 4 := by have := (List.getElem?_eq_some_iff.mp hw).1; simpa using this
      rw [List.getElem?_map, List.getElem?_range ht] at hw
      cases hw
      have gv : ∀ (h : Nat) (vs : List PyData), (bg S0 k h xs ++ [some (Ob.lst (vs.map W.dat))])[S0.length]? = some (some (.lst (vs.map W.dat))) := fun h vs => bg_get0
      have sv : ∀ (h : Nat) (vs : List PyData) (o : Option Ob), (bg S0 k h xs ++ [some (Ob.lst (vs.map W.dat))]).set S0.length o = bg S0 k h xs ++ [o] := fun h vs o => bg_set0
      have grow : ∀ (vs : List PyData) (v : PyData), vs.map W.dat ++ [W.dat v] = (vs ++ [v]).map W.dat := fun vs v => by simp
      have hk' : ∀ vs : List PyData, k < (S0 ++ [some (Ob.lst (vs.map W.dat))]).length := fun vs => by simp; omega
      repeat fail
      refine wp_recv (recv_append (gv _ _)) ?_
      repeat fail
      obtain ⟨h2, rb, hsb, cb⟩ := bent_ok (n + 6) k h xs w (S0 ++ [some (Ob.lst (vs.map W.dat))]) (hk' vs) hx Fw hwl
      rw [← bg_app hk, ← bg_app hk] at cb
      refine wp_of cb ?_
      repeat fail
      refine wp_method (append_obj (gv _ _) (by simp; omega)) ?_
      rw [sv, grow]
      repeat fail
      refine wp_recv (recv_append (gv _ _)) ?_
      repeat fail
      obtain ⟨h3, vo, hvo, co⟩ := odd_ok (n + 6) k h2 xs w (S0 ++ [some (Ob.lst ((vs ++ [rowsD rb]).map W.dat))]) (hk' _) hx Fw hwl
      rw [← bg_app hk, ← bg_app hk] at co
      refine wp_of co ?_
      repeat fail
      refine wp_method (append_obj (gv _ _) (by simp; omega)) ?_
      rw [sv, grow]
      repeat fail
      refine ⟨h3, vs ++ [rowsD rb] ++ [vo], _, rfl, rfl, it_app (it_app hvs (it_cons (small_told hsb) it_nil)) (it_cons hvo it_nil), by simp; omega, ?_, ?_⟩
      · rw [List.append_assoc, List.getElem?_append_left (by omega)]; exact hv0
      · rw [List.append_assoc, List.getElem?_append_left (by omega)]; exact hv1
    · rintro g S2 ⟨h, vs, x6, rfl, rfl, hvs, hvl, hv0, hv1⟩
      rw [List.length_map, List.length_range] at hvl
      have gv : (bg S0 k h xs ++ [some (Ob.lst (vs.map W.dat))])[S0.length]? = some (some (.lst (vs.map W.dat))) := bg_get0
      have gi : ∀ (i : Nat) (v : PyData), vs[i]? = some v → (vs.map W.dat)[i]? = some (.dat v) := fun i v e => by rw [List.getElem?_map, e]; rfl
      obtain ⟨T', hT'⟩ := hgrow h [some (Ob.lst (vs.map W.dat))]
      generalize bg S0 k h xs ++ [some (Ob.lst (vs.map W.dat))] = S3 at gv hT'
      repeat fail
      refine wp_of (judge_T (n + 5) w S3 Fw (by omega) Tw M.least) ?_
      repeat fail
      refine wp_item (item_objN (n := 0) gv (gi 0 _ hv0)) ?_
      repeat fail
      refine wp_of (judge_T (n + 5) w0 S3 w0_formed (by decide) T0 w0_least) ?_
      repeat fail
      refine wp_item (item_objN (n := 1) gv (gi 1 _ hv1)) ?_
      repeat fail
      refine wp_of (judge_T (n + 5) w1 S3 w1_formed (by decide) T1 w1_least) ?_
      repeat fail
      refine wp_walkV (walk_obj gv) ?_
      refine wp_forO (ws := vs.map W.dat) (fun t g S2 => ∃ (x7 : Option W), g = [some wv, some (.dat (.int ci)), some (.obj k), some (.dat (rowsD rs)), some (.dat (rowsD w)), some (.obj S0.length), x6, x7] ∧ S2 = S3) ?_ ?_ ?_ _ 0 _ _ (by simp [walkFuel]; omega) (by omega) ⟨_, rfl, rfl⟩
      · rintro i g S2 ⟨x7, rfl, rfl⟩
        exact gv
      · rintro i wv2 g S2 hw ⟨x7, rfl, rfl⟩
        rw [List.getElem?_map] at hw
        cases e : vs[i]? with
        | none => rw [e] at hw; cases hw
        | some v =>
          rw [e] at hw
          cases hw
          repeat fail
          refine wp_of (right_ok n v S2 (hvs v (List.mem_of_getElem? e))) ?_
          repeat fail
          exact ⟨_, rfl, rfl⟩
      · rintro g S2 ⟨x7, rfl, rfl⟩
        repeat fail
        exact ⟨_, _, _, _, _, _, _, rfl, T', hT'⟩
  · rintro g S2 ⟨x1, x2, x3, x4, x5, x6, x7, rfl, T, rfl⟩
    repeat fail
    exact ⟨rfl, take_app⟩
end K29
end

section
set_option Elab.async false
set_option linter.all false
set_option maxRecDepth 100000
set_option maxHeartbeats 1000000
set_option autoImplicit false
/-! K29b: the head's facts. -/
namespace Mp
open PySem PySem.Spec PyProof.Rows L2
/-- facts by names, and one more observation of one's own -/
def obsM (fa : List He.Fa) (fn : List He.DefD) (ex : PySem.W.Frag → Bool) (K : PySem.W.Frag) : He.AlD := (ex K && (He.obsD fa fn K).1, (He.obsD fa fn K).2)
def obsMG (n : Nat) (fa : List He.Fa) (fn : List He.DefD) (ex : PySem.W.Frag → Bool) (g : Addr → Option Obj) : He.AlD := obsM fa fn ex (He.frG g (He.asD g n))
def hookM (n : Nat) (fa : List He.Fa) (fn : List He.DefD) (ex : PySem.W.Frag → Bool) : PySem.W.Hook where
  α := He.AlD
  obs := fun s => obsMG n fa fn ex s.heap.get?
  val := fun _ => He.valD fn
  says := fun _ h => ∃ K : PySem.W.Frag, K.In h ∧ obsM fa fn ex K = He.valD fn
  of := fun _ _ e => ⟨_, He.frG_in, e⟩
  keeps := fun _ _ _ ⟨K, inK, c⟩ k => ⟨K, PySem.W.Frag.In.keeps inK k, c⟩
theorem obsMG_eq {n : Nat} {fa : List He.Fa} {fn : List He.DefD} {ex : PySem.W.Frag → Bool} {g : Addr → Option Obj} {s : Shared} (h : ∀ a, g a = s.heap.get? a) : obsMG n fa fn ex g = (hookM n fa fn ex).obs s := by
  rw [show g = s.heap.get? from funext h]
  rfl
theorem obsM_ok {fa : List He.Fa} {fn : List He.DefD} {ex : PySem.W.Frag → Bool} {K : PySem.W.Frag} (h : obsM fa fn ex K = He.valD fn) : ex K = true ∧ He.SaysD fa fn K := by
  have h1 : (ex K && (He.obsD fa fn K).1) = true := congrArg (fun z : He.AlD => z.1) h
  have h2 : (He.obsD fa fn K).2 = fn.map He.DefD.val := congrArg (fun z : He.AlD => z.2) h
  rw [Bool.and_eq_true] at h1
  exact ⟨h1.1, Prod.ext h1.2 h2⟩
/-- a def of the text, at a place of the top -/
def dD (d : Def) (st : Stmt) : He.DefD := ⟨(d.name, none), d.name, d.name, defArgs st, d.body, d.scope, [], []⟩
structure DF (d : Def) (st : Stmt) : Prop where
  b : ∀ (kV doc pm : Value) (an : Option Addr) (cdv ct : Value) (us : List Value), us.length = d.params.length → bindArgs (PySem.W.fnOf d.name d.name (defArgs st) d.body d.scope .none kV doc pm an cdv ct) ⟨us, []⟩ = pure (d.params.zip us)
  s : FnScope d.N d.params d.scope
end Mp
namespace K29
open PySem PySem.Spec PyProof.Rows L2 Mp
theorem fd_lively : DF d_lively s_lively := ⟨fun _ _ _ _ _ _ us hl => match us, hl with | [_, _], _ => rfl, ⟨rfl, rfl, rfl, by decide +kernel, rfl, by decide +kernel, by decide +kernel⟩⟩
theorem fd_refined : DF d_refined s_refined := ⟨fun _ _ _ _ _ _ us hl => match us, hl with | [_, _], _ => rfl, ⟨rfl, rfl, rfl, by decide +kernel, rfl, by decide +kernel, by decide +kernel⟩⟩
theorem fd_met : DF d_met s_met := ⟨fun _ _ _ _ _ _ us hl => match us, hl with | [_, _, _], _ => rfl, ⟨rfl, rfl, rfl, by decide +kernel, rfl, by decide +kernel, by decide +kernel⟩⟩
theorem fd_is_met_in_order : DF d_is_met_in_order s_is_met_in_order := ⟨fun _ _ _ _ _ _ us hl => match us, hl with | [_], _ => rfl, ⟨rfl, rfl, rfl, by decide +kernel, rfl, by decide +kernel, by decide +kernel⟩⟩
theorem fd_is_integer : DF d_is_integer s_is_integer := ⟨fun _ _ _ _ _ _ us hl => match us, hl with | [_], _ => rfl, ⟨rfl, rfl, rfl, by decide +kernel, rfl, by decide +kernel, by decide +kernel⟩⟩
theorem fd_is_between : DF d_is_between s_is_between := ⟨fun _ _ _ _ _ _ us hl => match us, hl with | [_, _, _], _ => rfl, ⟨rfl, rfl, rfl, by decide +kernel, rfl, by decide +kernel, by decide +kernel⟩⟩
theorem fd_is_index_of : DF d_is_index_of s_is_index_of := ⟨fun _ _ _ _ _ _ us hl => match us, hl with | [_, _], _ => rfl, ⟨rfl, rfl, rfl, by decide +kernel, rfl, by decide +kernel, by decide +kernel⟩⟩
theorem fd_is_bits : DF d_is_bits s_is_bits := ⟨fun _ _ _ _ _ _ us hl => match us, hl with | [_], _ => rfl, ⟨rfl, rfl, rfl, by decide +kernel, rfl, by decide +kernel, by decide +kernel⟩⟩
theorem fd_is_tuple_of : DF d_is_tuple_of s_is_tuple_of := ⟨fun _ _ _ _ _ _ us hl => match us, hl with | [_, _], _ => rfl, ⟨rfl, rfl, rfl, by decide +kernel, rfl, by decide +kernel, by decide +kernel⟩⟩
theorem fd_check_bits : DF d_check_bits s_check_bits := ⟨fun _ _ _ _ _ _ us hl => match us, hl with | [_], _ => rfl, ⟨rfl, rfl, rfl, by decide +kernel, rfl, by decide +kernel, by decide +kernel⟩⟩
theorem fd_are_kinds_right : DF d_are_kinds_right s_are_kinds_right := ⟨fun _ _ _ _ _ _ us hl => match us, hl with | [_, _], _ => rfl, ⟨rfl, rfl, rfl, by decide +kernel, rfl, by decide +kernel, by decide +kernel⟩⟩
theorem fd_is_least : DF d_is_least s_is_least := ⟨fun _ _ _ _ _ _ us hl => match us, hl with | [_], _ => rfl, ⟨rfl, rfl, rfl, by decide +kernel, rfl, by decide +kernel, by decide +kernel⟩⟩
theorem fd_check_acceptor : DF d_check_acceptor s_check_acceptor := ⟨fun _ _ _ _ _ _ us hl => match us, hl with | [_], _ => rfl, ⟨rfl, rfl, rfl, by decide +kernel, rfl, by decide +kernel, by decide +kernel⟩⟩
theorem fd_read_answer : DF d_read_answer s_read_answer := ⟨fun _ _ _ _ _ _ us hl => match us, hl with | [_, _], _ => rfl, ⟨rfl, rfl, rfl, by decide +kernel, rfl, by decide +kernel, by decide +kernel⟩⟩
theorem fd_acceptor_read : DF d_acceptor_read s_acceptor_read := ⟨fun _ _ _ _ _ _ us hl => match us, hl with | [_, _], _ => rfl, ⟨rfl, rfl, rfl, by decide +kernel, rfl, by decide +kernel, by decide +kernel⟩⟩
theorem fd__law_drops : DF d__law_drops s_law_drops := ⟨fun _ _ _ _ _ _ us hl => match us, hl with | [_, _], _ => rfl, ⟨rfl, rfl, rfl, by decide +kernel, rfl, by decide +kernel, by decide +kernel⟩⟩
theorem fd__law_take : DF d__law_take s_law_take := ⟨fun _ _ _ _ _ _ us hl => match us, hl with | [_, _], _ => rfl, ⟨rfl, rfl, rfl, by decide +kernel, rfl, by decide +kernel, by decide +kernel⟩⟩
theorem fd__law_same : DF d__law_same s_law_same := ⟨fun _ _ _ _ _ _ us hl => match us, hl with | [_, _], _ => rfl, ⟨rfl, rfl, rfl, by decide +kernel, rfl, by decide +kernel, by decide +kernel⟩⟩
theorem fd__law_says : DF d__law_says s_law_says := ⟨fun _ _ _ _ _ _ us hl => match us, hl with | [_, _], _ => rfl, ⟨rfl, rfl, rfl, by decide +kernel, rfl, by decide +kernel, by decide +kernel⟩⟩
theorem fd__law_formed : DF d__law_formed s_law_formed := ⟨fun _ _ _ _ _ _ us hl => match us, hl with | [_], _ => rfl, ⟨rfl, rfl, rfl, by decide +kernel, rfl, by decide +kernel, by decide +kernel⟩⟩
theorem fd__law_classes : DF d__law_classes s_law_classes := ⟨fun _ _ _ _ _ _ us hl => match us, hl with | [_, _], _ => rfl, ⟨rfl, rfl, rfl, by decide +kernel, rfl, by decide +kernel, by decide +kernel⟩⟩
theorem fd__law_least : DF d__law_least s_law_least := ⟨fun _ _ _ _ _ _ us hl => match us, hl with | [_, _], _ => rfl, ⟨rfl, rfl, rfl, by decide +kernel, rfl, by decide +kernel, by decide +kernel⟩⟩
theorem fd__law_rows : DF d__law_rows s_law_rows := ⟨fun _ _ _ _ _ _ us hl => match us, hl with | [_, _], _ => rfl, ⟨rfl, rfl, rfl, by decide +kernel, rfl, by decide +kernel, by decide +kernel⟩⟩
theorem fd__law_judge : DF d__law_judge s_law_judge := ⟨fun _ _ _ _ _ _ us hl => match us, hl with | [_], _ => rfl, ⟨rfl, rfl, rfl, by decide +kernel, rfl, by decide +kernel, by decide +kernel⟩⟩
theorem fd__law_exchanged : DF d__law_exchanged s_law_exchanged := ⟨fun _ _ _ _ _ _ us hl => match us, hl with | [_, _, _], _ => rfl, ⟨rfl, rfl, rfl, by decide +kernel, rfl, by decide +kernel, by decide +kernel⟩⟩
theorem fd__law_bent_rows : DF d__law_bent_rows s_law_bent_rows := ⟨fun _ _ _ _ _ _ us hl => match us, hl with | [_, _], _ => rfl, ⟨rfl, rfl, rfl, by decide +kernel, rfl, by decide +kernel, by decide +kernel⟩⟩
theorem fd__law_odd : DF d__law_odd s_law_odd := ⟨fun _ _ _ _ _ _ us hl => match us, hl with | [_, _], _ => rfl, ⟨rfl, rfl, rfl, by decide +kernel, rfl, by decide +kernel, by decide +kernel⟩⟩
theorem fd__law_refused : DF d__law_refused s_law_refused := ⟨fun _ _ _ _ _ _ us hl => match us, hl with | [_], _ => rfl, ⟨rfl, rfl, rfl, by decide +kernel, rfl, by decide +kernel, by decide +kernel⟩⟩
theorem fd__law_right : DF d__law_right s_law_right := ⟨fun _ _ _ _ _ _ us hl => match us, hl with | [_], _ => rfl, ⟨rfl, rfl, rfl, by decide +kernel, rfl, by decide +kernel, by decide +kernel⟩⟩
theorem fd_law : DF d_law s_law := ⟨fun _ _ _ _ _ _ us hl => match us, hl with | [_], _ => rfl, ⟨rfl, rfl, rfl, by decide +kernel, rfl, by decide +kernel, by decide +kernel⟩⟩
def sts : List Stmt := [s_lively, s_refined, s_met, s_is_met_in_order, s_is_integer, s_is_between, s_is_index_of, s_is_bits, s_is_tuple_of, s_check_bits, s_are_kinds_right, s_is_least, s_check_acceptor, s_read_answer, s_acceptor_read, s_law_drops, s_law_take, s_law_same, s_law_says, s_law_formed, s_law_classes, s_law_least, s_law_rows, s_law_judge, s_law_exchanged, s_law_bent_rows, s_law_odd, s_law_refused, s_law_right, s_law]
def fn : List He.DefD := [dD d_lively s_lively, dD d_refined s_refined, dD d_met s_met, dD d_is_met_in_order s_is_met_in_order, dD d_is_integer s_is_integer, dD d_is_between s_is_between, dD d_is_index_of s_is_index_of, dD d_is_bits s_is_bits, dD d_is_tuple_of s_is_tuple_of, dD d_check_bits s_check_bits, dD d_are_kinds_right s_are_kinds_right, dD d_is_least s_is_least, dD d_check_acceptor s_check_acceptor, dD d_read_answer s_read_answer, dD d_acceptor_read s_acceptor_read, dD d__law_drops s_law_drops, dD d__law_take s_law_take, dD d__law_same s_law_same, dD d__law_says s_law_says, dD d__law_formed s_law_formed, dD d__law_classes s_law_classes, dD d__law_least s_law_least, dD d__law_rows s_law_rows, dD d__law_judge s_law_judge, dD d__law_exchanged s_law_exchanged, dD d__law_bent_rows s_law_bent_rows, dD d__law_odd s_law_odd, dD d__law_refused s_law_refused, dD d__law_right s_law_right, dD d_law s_law]
theorem ds_at : ∀ (j : Nat) (d : Def), ds[j]? = some d → ∃ st, fn[j]? = some (dD d st) ∧ DF d st
  | 0, _, e => by cases e; exact ⟨_, rfl, fd_lively⟩
  | 1, _, e => by cases e; exact ⟨_, rfl, fd_refined⟩
  | 2, _, e => by cases e; exact ⟨_, rfl, fd_met⟩
  | 3, _, e => by cases e; exact ⟨_, rfl, fd_is_met_in_order⟩
  | 4, _, e => by cases e; exact ⟨_, rfl, fd_is_integer⟩
  | 5, _, e => by cases e; exact ⟨_, rfl, fd_is_between⟩
  | 6, _, e => by cases e; exact ⟨_, rfl, fd_is_index_of⟩
  | 7, _, e => by cases e; exact ⟨_, rfl, fd_is_bits⟩
  | 8, _, e => by cases e; exact ⟨_, rfl, fd_is_tuple_of⟩
  | 9, _, e => by cases e; exact ⟨_, rfl, fd_check_bits⟩
  | 10, _, e => by cases e; exact ⟨_, rfl, fd_are_kinds_right⟩
  | 11, _, e => by cases e; exact ⟨_, rfl, fd_is_least⟩
  | 12, _, e => by cases e; exact ⟨_, rfl, fd_check_acceptor⟩
  | 13, _, e => by cases e; exact ⟨_, rfl, fd_read_answer⟩
  | 14, _, e => by cases e; exact ⟨_, rfl, fd_acceptor_read⟩
  | 15, _, e => by cases e; exact ⟨_, rfl, fd__law_drops⟩
  | 16, _, e => by cases e; exact ⟨_, rfl, fd__law_take⟩
  | 17, _, e => by cases e; exact ⟨_, rfl, fd__law_same⟩
  | 18, _, e => by cases e; exact ⟨_, rfl, fd__law_says⟩
  | 19, _, e => by cases e; exact ⟨_, rfl, fd__law_formed⟩
  | 20, _, e => by cases e; exact ⟨_, rfl, fd__law_classes⟩
  | 21, _, e => by cases e; exact ⟨_, rfl, fd__law_least⟩
  | 22, _, e => by cases e; exact ⟨_, rfl, fd__law_rows⟩
  | 23, _, e => by cases e; exact ⟨_, rfl, fd__law_judge⟩
  | 24, _, e => by cases e; exact ⟨_, rfl, fd__law_exchanged⟩
  | 25, _, e => by cases e; exact ⟨_, rfl, fd__law_bent_rows⟩
  | 26, _, e => by cases e; exact ⟨_, rfl, fd__law_odd⟩
  | 27, _, e => by cases e; exact ⟨_, rfl, fd__law_refused⟩
  | 28, _, e => by cases e; exact ⟨_, rfl, fd__law_right⟩
  | 29, _, e => by cases e; exact ⟨_, rfl, fd_law⟩
  | n + 30, _, e => by cases e
def fb : List He.Fa := blts.map He.Fa.free
def fg : List He.Fa := ds.map fun d => He.Fa.glo d.name
def fs : List He.Fa := [.str "WHOLE" "whole", .str "DEAD" "dead", .str "OPEN" "open", .glo "KINDS", .glo "InvalidBits", .glo "InvalidAcceptor", .exc "InvalidBits", .exc "InvalidAcceptor", .exm "InvalidAcceptor" "InvalidAcceptor" true, .exm "InvalidBits" "InvalidAcceptor" false]
def fa : List He.Fa := fb ++ fg ++ fs
def ex (K : PySem.W.Frag) : Bool := He.tupB K "KINDS" [.str "open", .str "whole", .str "dead"]
abbrev R : PySem.W.OpenRow := PySem.W.OpenLaw.row PySem.Challenge.rw_termsonwires_k29_judged_acceptors
abbrev hk : PySem.W.Hook := hookM 4 fa fn ex
def ob (s : PySem.W.SharedT) : He.AlD := obsMG 4 fa fn ex (HandSHeadRun.getT s)
theorem ob_eq (s : PySem.W.SharedT) : ob s = hk.obs s.abs := obsMG_eq (HandSHeadRun.getT_eq s)
def loose1 : List PySem.Str := ["WHOLE", "DEAD", "OPEN", "KINDS", "lively", "refined", "met", "is_met_in_order", "WireError", "InvalidBits", "InvalidAcceptor", "is_integer", "is_between", "is_index_of", "is_bits", "is_tuple_of", "check_bits", "are_kinds_right", "is_least", "check_acceptor"]
def loose2 : List PySem.Str := ["read_answer", "acceptor_read", "_law_drops", "_law_take", "_law_same", "_law_says", "_law_formed", "_law_classes", "_law_least", "_law_rows", "_law_judge", "_law_exchanged", "_law_bent_rows", "_law_odd", "_law_refused", "_law_right"]
def loose : List PySem.Str := loose1 ++ loose2
end K29
end

section
set_option Elab.async false
set_option linter.all false
set_option maxRecDepth 1000000
set_option maxHeartbeats 0
/-! K29r: the top runs. -/
namespace K29
open PySem PySem.Spec PyProof.Rows L2 Mp
theorem run (w : World) : HandSHeadRun.RunEq R (PySem.W.view R.prog [41]) hk ob 2000 loose w := by
  intro os
  kernel_rfl
end K29
end

section
set_option Elab.async false
set_option linter.all false
set_option maxRecDepth 100000
set_option maxHeartbeats 1000000
set_option autoImplicit false
/-! K29p: the program's facts. -/
namespace K29
open PySem PySem.Spec PyProof.Rows L2 Mp
section
variable {K : PySem.W.Frag} {h : Heap} {mg : Str → Option Value}
theorem fact_in (c : He.SaysD fa fn K) {f : He.Fa} (hf : f ∈ fa) : f.ok K = true := by
  have c1 := (He.ba (show ((fa.all fun f => f.ok K) && fn.all fun d => d.ok K) = true from congrArg (fun z : He.AlD => z.1) c)).1
  exact List.all_eq_true.mp c1 f hf
theorem in_fs {f : He.Fa} (hf : f ∈ fs) : f ∈ fa := List.mem_append_right _ hf
theorem in_fg {f : He.Fa} (hf : f ∈ fg) : f ∈ fa := List.mem_append_left _ (List.mem_append_right _ hf)
theorem in_fb {f : He.Fa} (hf : f ∈ fb) : f ∈ fa := List.mem_append_left _ (List.mem_append_left _ hf)
theorem def_at (X : K.In h) (Gm : h.Ns mainGlobals mg) (c : He.SaysD fa fn K) {x : Str} {d : Def} (hd : ds.find? (fun d => decide (d.name = x)) = some d) : ∃ f fd, DefAt K mg ds x d f fd ∧ (∀ st, DF d st → True) ∧ ∃ st, DF d st ∧ FunD K d.name d.name (defArgs st) d.body d.scope [] [] f fd := by
  have hm := List.mem_of_find?_eq_some hd
  have hn : d.name = x := by
    have := List.find?_some hd
    exact of_decide_eq_true this
  obtain ⟨j, hj, ej⟩ := List.mem_iff_getElem.mp hm
  obtain ⟨st, e, df⟩ := ds_at j d (by rw [List.getElem?_eq_getElem hj, ej])
  obtain ⟨fd, F⟩ := c.def_ j e
  have g := He.glo_ok X Gm (fact_in c (in_fg (List.mem_map_of_mem (f := fun d : Def => He.Fa.glo d.name) hm)))
  have F : FunD K d.name d.name (defArgs st) d.body d.scope [] [] (He.ga K d.name) fd := F
  refine ⟨He.ga K d.name, fd, ⟨hd, by rw [← hn]; exact g, ⟨d.name, defArgs st, [], [], by rw [← hn]; exact F⟩, F.bindsN df.b, df.s⟩, fun _ _ => trivial, st, df, F⟩
theorem val_fn {x : Str} (hv : val x = some .fn) : ∃ d, ds.find? (fun d => decide (d.name = x)) = some d := by
  unfold val at hv
  split at hv
  · cases hv
  · split at hv
    · rename_i ha
      cases e : ds.find? (fun d => decide (d.name = x)) with
      | some d => exact ⟨d, rfl⟩
      | none =>
        rw [List.find?_eq_none] at e
        rw [List.any_eq_true] at ha
        obtain ⟨d, hd, h⟩ := ha
        exact absurd h (e d hd)
    · split at hv
      · cases hv
      · split at hv <;> cases hv
theorem exk {x : Str} (X : K.In h) (Gm : h.Ns mainGlobals mg) (c : He.SaysD fa fn K) (h1 : He.Fa.glo x ∈ fs) (h2 : He.Fa.exc x ∈ fs) : ExK K mg x (He.ga K x) "ValueError" "ValueError.__new__" "ValueError.__init__" He.veBase := by
  obtain ⟨q1, q2, q3, q4⟩ := He.exc_ok (fact_in c (in_fs h2))
  exact ⟨He.glo_ok X Gm (fact_in c (in_fs h1)), PySem.F.excBase_ValueError, q1, q2, q3, q4⟩
theorem prog_ok (X : K.In h) (Gm : h.Ns mainGlobals mg) (c : He.SaysD fa fn K) (ce : ex K = true) : POk K mg G ds where
  cst := fun x d hv => by
    have hv : val x = some (.cst d) := hv
    unfold val at hv
    split at hv
    · rename_i d' e
      injection hv with hv
      injection hv with hv
      subst hv
      by_cases e1 : x = "WHOLE"
      · subst e1
        cases e
        obtain ⟨t, q⟩ := He.str_ok X Gm (fact_in c (in_fs (f := .str "WHOLE" "whole") (by unfold fs; simp)))
        exact ⟨.str "whole", _, q, ⟨t, rfl⟩, by unfold Rk; rfl⟩
      by_cases e2 : x = "DEAD"
      · subst e2
        cases e
        obtain ⟨t, q⟩ := He.str_ok X Gm (fact_in c (in_fs (f := .str "DEAD" "dead") (by unfold fs; simp)))
        exact ⟨.str "dead", _, q, ⟨t, rfl⟩, by unfold Rk; rfl⟩
      by_cases e3 : x = "OPEN"
      · subst e3
        cases e
        obtain ⟨t, q⟩ := He.str_ok X Gm (fact_in c (in_fs (f := .str "OPEN" "open") (by unfold fs; simp)))
        exact ⟨.str "open", _, q, ⟨t, rfl⟩, by unfold Rk; rfl⟩
      by_cases e4 : x = "KINDS"
      · subst e4
        cases e
        have q := He.glo_ok X Gm (fact_in c (in_fs (f := .glo "KINDS") (by unfold fs; simp)))
        refine ⟨.ref (He.ga K "KINDS"), _, q, rfl, ?_⟩
        unfold Rk
        refine ⟨_, _, rfl, fun H => He.tupB_ok ce H, ?_⟩
        unfold Rks
        refine ⟨_, _, rfl, by unfold Rk; rfl, ?_⟩
        unfold Rks
        refine ⟨_, _, rfl, by unfold Rk; rfl, ?_⟩
        unfold Rks
        exact ⟨_, _, rfl, by unfold Rk; rfl, by unfold Rks; rfl⟩
      exfalso
      unfold csts at e
      simp only [List.lookup_cons, beq_eq_false_iff_ne.mpr e1, beq_eq_false_iff_ne.mpr e2, beq_eq_false_iff_ne.mpr e3, beq_eq_false_iff_ne.mpr e4, List.lookup_nil] at e
      cases e
    · split at hv
      · cases hv
      · split at hv
        · cases hv
        · split at hv <;> cases hv
  blt := fun x hv => by
    have hv : val x = some .blt := hv
    unfold val at hv
    split at hv
    · cases hv
    · split at hv
      · cases hv
      · split at hv
        · cases hv
        · split at hv
          · rename_i hb
            have hb : x ∈ blts := by simpa using hb
            exact He.free_ok X Gm (fact_in c (in_fb (List.mem_map_of_mem (f := He.Fa.free) hb)))
          · cases hv
  fn := fun x hv => by
    obtain ⟨d, hd⟩ := val_fn hv
    obtain ⟨f, fd, D, _⟩ := def_at X Gm c hd
    exact ⟨d, f, fd, D⟩
  kw := fun x y hv => by
    have hv := of_decide_eq_true (show decide (x = "is_least" ∧ y = "value") = true from hv)
    obtain ⟨e1, e2⟩ := hv
    subst e1 e2
    have hd : ds.find? (fun d => decide (d.name = ("is_least" : PySem.Str))) = some d_is_least := rfl
    obtain ⟨fd, F⟩ := c.def_ 11 (d := dD d_is_least s_is_least) rfl
    have g := He.glo_ok X Gm (fact_in c (in_fg (f := .glo "is_least") (List.mem_map_of_mem (f := fun d : Def => He.Fa.glo d.name) (List.mem_of_find?_eq_some hd))))
    have F : FunD K "is_least" "is_least" (defArgs s_is_least) d_is_least.body d_is_least.scope [] [] (He.ga K "is_least") fd := F
    have bN : Binds K fd d_is_least.params [] := F.bindsN fd_is_least.b
    refine ⟨d_is_least, _, fd, ⟨hd, g, ⟨"is_least", defArgs s_is_least, [], [], F⟩, bN, fd_is_least.s⟩, rfl, ?_, fun r1 r2 => r1.append r2⟩
    intro s us ws inK hl
    match us, ws, hl with
    | [u], [], _ => exact bN s [u] inK rfl
    | [], [w], _ =>
      obtain ⟨oc, od, dV, kV, doc, pm, an, cdv, ct, osl, efd, lk, hcd, hD, hK⟩ := F.ex
      subst efd
      rcases hD with ⟨_, e⟩ | ⟨e, _⟩
      · subst e
        exact .of_eq rfl
      · exact absurd rfl e
    | [], [], hl => exact absurd hl (by decide)
    | [], _ :: _ :: _, hl => exact absurd hl (by simp)
    | _ :: _ :: _, _, hl => exact absurd hl (by simp)
    | [_], _ :: _, hl => exact absurd hl (by simp)
  exc := fun x hv => by
    have hv : val x = some .exc := hv
    unfold val at hv
    split at hv
    · cases hv
    · split at hv
      · cases hv
      · split at hv
        · rename_i hx
          have hx : x = "InvalidBits" ∨ x = "InvalidAcceptor" := by simpa [excs] using hx
          rcases hx with e | e
          · subst e
            exact ⟨_, _, _, _, _, exk X Gm c (by unfold fs; simp) (by unfold fs; simp)⟩
          · subst e
            exact ⟨_, _, _, _, _, exk X Gm c (by unfold fs; simp) (by unfold fs; simp)⟩
        · split at hv <;> cases hv
  sub := fun x y b hv => by
    have hv : sub x y = some b := hv
    unfold sub at hv
    split at hv
    · rename_i e
      obtain ⟨e1, e2⟩ := e
      subst e1 e2
      cases hv
      have q := He.glo_ok X Gm (fact_in c (in_fs (f := .glo "InvalidAcceptor") (by unfold fs; simp)))
      exact ⟨_, _, q, q, He.exm_ok (fact_in c (in_fs (f := .exm "InvalidAcceptor" "InvalidAcceptor" true) (by unfold fs; simp)))⟩
    · split at hv
      · rename_i e
        obtain ⟨e1, e2⟩ := e
        subst e1 e2
        cases hv
        have q := He.glo_ok X Gm (fact_in c (in_fs (f := .glo "InvalidAcceptor") (by unfold fs; simp)))
        have q2 := He.glo_ok X Gm (fact_in c (in_fs (f := .glo "InvalidBits") (by unfold fs; simp)))
        exact ⟨_, _, q2, q, He.exm_ok (fact_in c (in_fs (f := .exm "InvalidBits" "InvalidAcceptor" false) (by unfold fs; simp)))⟩
      · cases hv
end
end K29
end

section
set_option Elab.async false
set_option linter.all false
set_option maxRecDepth 100000
set_option maxHeartbeats 1000000
set_option autoImplicit false
/-! K29e: the end, but for the plain law. -/
namespace K29
open PySem PySem.Spec PyProof.Rows L2 Mp
/-- the law by the interpreter, its calls 30 deep -/
def Plain : Prop := ∀ ns : List Int, ns.length ≤ 63 → Trues (calls G ds 30 "law" [.dat (scriptD ns)] []) ∧ Trues (calls G ds 30 "law" [.con (scriptD ns)] [])
theorem facts {P : Program} {w : World} {K : PySem.W.Frag} {h : Heap} {mg : Str → Option Value} {f : Addr} (X : K.In h) (Gm : h.Ns mainGlobals mg) (hfa : mg ("law" : Str) = some (.ref f)) (c : obsM fa fn ex K = He.valD fn) :
    ∃ fd : FuncData, (∀ (s : Shared) (v : Value), BindsTo s fd ⟨[v], []⟩ [("_law_script", v)]) ∧ ∀ base : Heap, K.In base → base.Ns mainGlobals mg → FnG P w K mg base 30 f fd ["_law_script"] (spF K mg (calls G ds 30 "law")) := by
  obtain ⟨ce, c⟩ := obsM_ok c
  have p := prog_ok X Gm c ce
  obtain ⟨fd, F⟩ := c.def_ 29 (d := dD d_law s_law) rfl
  have hd : ds.find? (fun d => decide (d.name = ("law" : PySem.Str))) = some d_law := rfl
  have g := He.glo_ok X Gm (fact_in c (in_fg (f := .glo "law") (List.mem_map_of_mem (f := fun d : Def => He.Fa.glo d.name) (List.mem_of_find?_eq_some hd))))
  have F : FunD K "law" "law" (defArgs s_law) d_law.body d_law.scope [] [] (He.ga K "law") fd := F
  have e := hfa.symm.trans g
  cases e
  refine ⟨fd, fun s v => F.bindsA fd_law.b s [v] rfl, fun base _ _ => ?_⟩
  have e2 : calls G ds 30 "law" = callD G (calls G ds 29) d_law := calls_at hd
  rw [e2]
  exact def_keeps d_law F fd_law.s (gok p 29)
end K29
open PySem PySem.W PySem.Calls PyProof.Rows
theorem k29_of (plain : K29.Plain) : PySem.Challenge.rw_termsonwires_k29_judged_acceptors.Holds := by
  w_on; o_law
  refine HandSHeadRun.head_any (r := OpenLaw.row PySem.Challenge.rw_termsonwires_k29_judged_acceptors) (q := view (OpenLaw.row PySem.Challenge.rw_termsonwires_k29_judged_acceptors).prog [41]) (H := K29.hk) (ob := K29.ob) (M := 2000) (loose := K29.loose) (d := HandSHeadRun.topDef (OpenLaw.row PySem.Challenge.rw_termsonwires_k29_judged_acceptors).prog 41) (kwd := []) K29.ob_eq
    (by kernel_rfl) (fun s => by kernel_rfl) K29.run (by kernel_rfl) (by kernel_rfl) (by kernel_rfl) (by rfl) (by first | assumption | decide +kernel) (by decide +kernel) ⟨rfl, rfl, rfl, rfl, rfl, by decide +kernel⟩ ?hw ?hc
  case hw => w_witness2
  case hc =>
    refine Mp.law_walks (l := PySem.Challenge.rw_termsonwires_k29_judged_acceptors) (n := 63) (k := 30) (x := "_law_script") rfl (by decide) (by kernel_rfl) ⟨rfl, by decide, by decide⟩ ?F
    intro w mg fa h Y G hmg0
    obtain ⟨K, KX, c⟩ := Y
    have hmg : mg ("law" : PySem.Str) = some (.ref fa) := by
      have e : (HandSHeadRun.topDef (OpenLaw.row PySem.Challenge.rw_termsonwires_k29_judged_acceptors).prog 41).name = ("law" : PySem.Str) := by kernel_rfl
      rw [← e]
      exact hmg0
    obtain ⟨fd, hb, hF⟩ := K29.facts (P := (PySem.Challenge.rw_termsonwires_k29_judged_acceptors).prog) (w := w) KX G hmg c
    exact ⟨K, fd, Mp.spF K mg (Mp.calls K29.G K29.ds 30 "law"), KX, hb, fun H a ns hl hS => Mp.law_sp (plain ns hl).1 (plain ns hl).2 hS, hF⟩
end

section
set_option Elab.async false
set_option linter.all false
set_option maxRecDepth 100000
set_option maxHeartbeats 1000000
set_option autoImplicit false
open PySem L2 Mp Mp.Q KM
namespace K29
theorem plain_ok : Plain := fun ns hn => by
  have h1 := law_ok 21 ns (.dat (scriptD ns)) [] hn fun S => add_list (by simp; omega)
  have h2 := law_ok 21 ns (.con (scriptD ns)) [] hn fun S => add_con (by simp; omega)
  constructor
  · show Trues (calls G ds (21 + 9) "law" [.dat (scriptD ns)] [])
    rw [h1]
    rfl
  · show Trues (calls G ds (21 + 9) "law" [.con (scriptD ns)] [])
    rw [h2]
    rfl
end K29
theorem PySem.Challenge.cw_termsonwires_k29_judged_acceptors_holds : PySem.Challenge.rw_termsonwires_k29_judged_acceptors.Holds :=
  k29_of K29.plain_ok
end
