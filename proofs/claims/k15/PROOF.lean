import PyProof.Rows.All
import Wide.All
import OpenK.AllK
import Wide.FinOn
import HandS.ForMost
import HandS.Wide
import HandS.IsInst
import HandS.Flow
import HandS.More
import HandS.Style
import KE.DataFind
import PySem.Challenge.RW_clockverdict_k15_offset_span
section
set_option Elab.async false
set_option linter.all false
set_option maxRecDepth 100000
set_option maxHeartbeats 4000000
/-! data and how it lies in the heap; slots of a def; judgements over slots alone -/
namespace DL
open PySem L2

inductive D where
  | non | bl (b : Bool) | int (i : Int) | str (x : Str) | lst (xs : List D) | tup (xs : List D) | dic (kvs : List (Key × D))

def Ex (H H' : Hp) : Prop := ∀ a o, H a = some o → H' a = some o
theorem Ex.refl (H : Hp) : Ex H H := fun _ _ h => h
theorem Ex.trans {H H1 H2 : Hp} (a : Ex H H1) (b : Ex H1 H2) : Ex H H2 := fun x o h => b x o (a x o h)
theorem Ex.new {H : Hp} {p : Addr} {o : HO} (h : H p = none) : Ex H (upd H p o) := fun a u e => by
  rw [upd_ne (ne_of_none e h)]; exact e
theorem Ex.back {H H' : Hp} {p : Addr} (e : Ex H H') (h : H' p = none) : H p = none := by
  cases h1 : H p with
  | none => rfl
  | some o => rw [e p o h1] at h; cases h
theorem Ex.ne {H H' : Hp} {p : Addr} (e : Ex H H') (h : H p ≠ none) : H' p ≠ none := fun z => h (e.back z)
theorem ex_rd {H H' : Hp} {a : Addr} {u : HO} (e : Ex H H') (h : Rd H a u) : Rd H' a u := by
  rcases h with h | ⟨o, h⟩
  · exact .inl (e a _ h)
  · exact .inr ⟨o, e a _ h⟩
theorem ex_l {K : PySem.W.Frag} {H H' : Hp} {a : Addr} {xs : List V} (e : Ex H H') (h : SqL K H a xs) : SqL K H' a xs := h.imp (ex_rd e) id
theorem ex_t {K : PySem.W.Frag} {H H' : Hp} {a : Addr} {xs : List V} (e : Ex H H') (h : SqT K H a xs) : SqT K H' a xs := h.imp (ex_rd e) id

section
variable (K : PySem.W.Frag) (R : Hp)
mutual
def Rp : D → V → Prop
  | .non, v => v = .non
  | .bl b, v => v = .bl b
  | .int i, v => v = .int i
  | .str x, v => v = .str x
  | .lst ds, v => ∃ a vs, v = .ref a ∧ R a = some (.lst vs) ∧ RpL ds vs
  | .tup ds, v => ∃ a vs, v = .ref a ∧ SqT K R a vs ∧ RpL ds vs
  | .dic kvs, v => ∃ a ws, v = .ref a ∧ R a = some (.dK ws) ∧ RpK kvs ws
def RpL : List D → List V → Prop
  | [], vs => vs = []
  | d :: ds, vs => ∃ v ws, vs = v :: ws ∧ Rp d v ∧ RpL ds ws
def RpK : List (Key × D) → List (Key × V) → Prop
  | [], ws => ws = []
  | (k, d) :: r, ws => ∃ v ws', ws = (k, v) :: ws' ∧ Rp d v ∧ RpK r ws'
end
end

section
variable {K : PySem.W.Frag} {R R' : Hp}
mutual
theorem Rp.mono (e : Ex R R') : ∀ (d : D) (v : V), Rp K R d v → Rp K R' d v
  | .non, _, h => h
  | .bl _, _, h => h
  | .int _, _, h => h
  | .str _, _, h => h
  | .lst ds, _, ⟨a, vs, h1, h2, h3⟩ => ⟨a, vs, h1, e a _ h2, RpL.mono e ds vs h3⟩
  | .tup ds, _, ⟨a, vs, h1, h2, h3⟩ => ⟨a, vs, h1, ex_t e h2, RpL.mono e ds vs h3⟩
  | .dic kvs, _, ⟨a, ws, h1, h2, h3⟩ => ⟨a, ws, h1, e a _ h2, RpK.mono e kvs ws h3⟩
theorem RpL.mono (e : Ex R R') : ∀ (ds : List D) (vs : List V), RpL K R ds vs → RpL K R' ds vs
  | [], _, h => h
  | d :: ds, _, ⟨v, ws, h1, h2, h3⟩ => ⟨v, ws, h1, Rp.mono e d v h2, RpL.mono e ds ws h3⟩
theorem RpK.mono (e : Ex R R') : ∀ (ds : List (Key × D)) (vs : List (Key × V)), RpK K R ds vs → RpK K R' ds vs
  | [], _, h => h
  | (_, d) :: ds, _, ⟨v, ws, h1, h2, h3⟩ => ⟨v, ws, h1, Rp.mono e d v h2, RpK.mono e ds ws h3⟩
end
theorem RpL.length : ∀ {ds : List D} {vs : List V}, RpL K R ds vs → ds.length = vs.length
  | [], _, h => by cases (show _ = _ from h); rfl
  | d :: ds, _, ⟨v, ws, h1, h2, h3⟩ => by subst h1; simp [RpL.length h3]
theorem RpL.get : ∀ {ds : List D} {vs : List V} {i : Nat} {d : D}, RpL K R ds vs → ds[i]? = some d → ∃ v, vs[i]? = some v ∧ Rp K R d v
  | [], _, i, _, h, e => by simp at e
  | d :: ds, _, 0, x, ⟨v, ws, h1, h2, h3⟩, e => by
    subst h1; simp at e; subst e; exact ⟨v, rfl, h2⟩
  | d :: ds, _, i + 1, x, ⟨v, ws, h1, h2, h3⟩, e => by
    subst h1
    obtain ⟨u, a, b⟩ := RpL.get (i := i) h3 (by simpa using e)
    exact ⟨u, by simpa using a, b⟩
theorem RpL.get' : ∀ {ds : List D} {vs : List V} {i : Nat} {v : V}, RpL K R ds vs → vs[i]? = some v → ∃ d, ds[i]? = some d ∧ Rp K R d v
  | [], _, i, _, h, e => by cases (show _ = _ from h); simp at e
  | d :: ds, _, 0, x, ⟨v, ws, h1, h2, h3⟩, e => by
    subst h1; simp at e; subst e; exact ⟨d, rfl, h2⟩
  | d :: ds, _, i + 1, x, ⟨v, ws, h1, h2, h3⟩, e => by
    subst h1
    obtain ⟨u, a, b⟩ := RpL.get' (i := i) h3 (by simpa using e)
    exact ⟨u, by simpa using a, b⟩
theorem RpL.append : ∀ {ds es : List D} {vs ws : List V}, RpL K R ds vs → RpL K R es ws → RpL K R (ds ++ es) (vs ++ ws)
  | [], _, _, _, h, h' => by cases (show _ = _ from h); exact h'
  | d :: ds, _, _, _, ⟨v, ws, h1, h2, h3⟩, h' => by subst h1; exact ⟨v, _, rfl, h2, RpL.append h3 h'⟩
theorem RpL.take : ∀ {ds : List D} {vs : List V} (n : Nat), RpL K R ds vs → RpL K R (ds.take n) (vs.take n)
  | [], _, n, h => by cases (show _ = _ from h); simp [RpL]
  | d :: ds, _, 0, h => by simp [RpL]
  | d :: ds, _, n + 1, ⟨v, ws, h1, h2, h3⟩ => by subst h1; exact ⟨v, _, rfl, h2, RpL.take n h3⟩
theorem RpL.drop : ∀ {ds : List D} {vs : List V} (n : Nat), RpL K R ds vs → RpL K R (ds.drop n) (vs.drop n)
  | [], _, n, h => by cases (show _ = _ from h); simp [RpL]
  | d :: ds, _, 0, h => h
  | d :: ds, _, n + 1, ⟨v, ws, h1, h2, h3⟩ => by subst h1; exact RpL.drop n h3
theorem RpL.set : ∀ {ds : List D} {vs : List V} (n : Nat) {d : D} {v : V}, RpL K R ds vs → Rp K R d v → RpL K R (ds.set n d) (vs.set n v)
  | [], _, n, _, _, h, _ => by cases (show _ = _ from h); simp [RpL]
  | d :: ds, _, 0, _, _, ⟨v, ws, h1, h2, h3⟩, h' => by subst h1; exact ⟨_, _, rfl, h', h3⟩
  | d :: ds, _, n + 1, _, _, ⟨v, ws, h1, h2, h3⟩, h' => by subst h1; exact ⟨v, _, rfl, h2, RpL.set n h3 h'⟩
theorem RpL.erase : ∀ {ds : List D} {vs : List V} (n : Nat), RpL K R ds vs → RpL K R (ds.eraseIdx n) (vs.eraseIdx n)
  | [], _, n, h => by cases (show _ = _ from h); simp [RpL]
  | d :: ds, _, 0, ⟨v, ws, h1, h2, h3⟩ => by subst h1; exact h3
  | d :: ds, _, n + 1, ⟨v, ws, h1, h2, h3⟩ => by subst h1; exact ⟨v, _, rfl, h2, RpL.erase n h3⟩
theorem RpL.one {d : D} {v : V} (h : Rp K R d v) : RpL K R [d] [v] := ⟨v, [], rfl, h, rfl⟩
theorem RpL.nil : RpL K R [] [] := rfl
theorem RpL.cons {d : D} {v : V} {ds : List D} {vs : List V} (h : Rp K R d v) (t : RpL K R ds vs) : RpL K R (d :: ds) (v :: vs) := ⟨v, vs, rfl, h, t⟩
theorem RpL.dropLast {ds : List D} {vs : List V} (h : RpL K R ds vs) : RpL K R ds.dropLast vs.dropLast := by
  rw [List.dropLast_eq_take, List.dropLast_eq_take, h.length]; exact h.take _
theorem RpL.reverse : ∀ {ds : List D} {vs : List V}, RpL K R ds vs → RpL K R ds.reverse vs.reverse
  | [], _, h => by cases (show _ = _ from h); simp [RpL]
  | d :: ds, _, ⟨v, ws, h1, h2, h3⟩ => by subst h1; simp only [List.reverse_cons]; exact (RpL.reverse h3).append (.one h2)
theorem RpL.ints : ∀ {ns : List Int}, RpL K R (ns.map D.int) (ns.map V.int)
  | [] => rfl
  | n :: ns => ⟨_, _, rfl, rfl, RpL.ints⟩
end

/-! ### owned objects, slots -/
/-- a draw's store: whole and in its bounds; what it holds is left open -/
def StoreB (ns : List Int) (place great st left cnt : Int) : Prop :=
  ns.length ≤ 63 ∧ (0 ≤ place ∧ place ≤ ns.length) ∧ 0 ≤ great ∧ (0 ≤ st ∧ st < 1000000007) ∧ (0 ≤ left ∧ left ≤ 3) ∧ 0 ≤ cnt
/-- what a store holds -/
def stoD (ns : List Int) (place great st left cnt : Int) : List D := [.lst (ns.map D.int), .int place, .int great, .int st, .int left, .int cnt]
def StoreOk (K : PySem.W.Frag) (R H : Hp) (s : Addr) : Prop :=
  ∃ (ns : List Int) (place great st left cnt : Int), StoreB ns place great st left cnt ∧ ∃ vs, H s = some (.lst vs) ∧ RpL K R (stoD ns place great st left cnt) vs
inductive OB where
  | lst (xs : List D) | sto | dic (kvs : List (Key × D))
def OBOk (K : PySem.W.Frag) (R H : Hp) (a : Addr) : OB → Prop
  | .lst ds => ∃ vs, H a = some (.lst vs) ∧ RpL K R ds vs
  | .sto => StoreOk K R H a
  | .dic kvs => ∃ ws, H a = some (.dK ws) ∧ RpK K R kvs ws
theorem OBOk.mono {K : PySem.W.Frag} {R R' H H' : Hp} {a : Addr} (e : Ex R R') (k : ∀ o, H a = some o → H' a = some o) : ∀ {o : OB}, OBOk K R H a o → OBOk K R' H' a o
  | .lst _, ⟨vs, h1, h2⟩ => ⟨vs, k _ h1, h2.mono e⟩
  | .sto, ⟨ns, p, g, st, l, n, h1, vs, h2, h3⟩ => ⟨ns, p, g, st, l, n, h1, vs, k _ h2, h3.mono e⟩
  | .dic _, ⟨vs, h1, h2⟩ => ⟨vs, k _ h1, h2.mono e⟩
theorem OBOk.there {K : PySem.W.Frag} {R H : Hp} {a : Addr} : ∀ {o : OB}, OBOk K R H a o → H a ≠ none
  | .lst _, ⟨vs, h1, _⟩ => by rw [h1]; simp
  | .sto, ⟨ns, p, g, st, l, n, h1, vs, h2, _⟩ => by rw [h2]; simp
  | .dic _, ⟨vs, h1, _⟩ => by rw [h1]; simp

/-- read-only: data of the frozen part, or a list, a dict that stands in the heap and whose things are frozen -/
def WOk (K : PySem.W.Frag) (M : Addr → Prop) (R H : Hp) (x : D) (v : V) : Prop :=
  Rp K R x v ∨ (∃ a vs ds, v = .ref a ∧ x = .lst ds ∧ ¬ M a ∧ H a = some (.lst vs) ∧ RpL K R ds vs) ∨ (∃ a ws kvs, v = .ref a ∧ x = .dic kvs ∧ ¬ M a ∧ H a = some (.dK ws) ∧ RpK K R kvs ws)
theorem WOk.mono {K : PySem.W.Frag} {M : Addr → Prop} {R R' H H' : Hp} {x : D} {v : V} (e : Ex R R') (k : ∀ a o, ¬ M a → H a = some o → H' a = some o) : WOk K M R H x v → WOk K M R' H' x v
  | .inl h => .inl (h.mono e)
  | .inr (.inl ⟨a, vs, ds, h1, h2, h3, h4, h5⟩) => .inr (.inl ⟨a, vs, ds, h1, h2, h3, k a _ h3 h4, h5.mono e⟩)
  | .inr (.inr ⟨a, vs, ds, h1, h2, h3, h4, h5⟩) => .inr (.inr ⟨a, vs, ds, h1, h2, h3, k a _ h3 h4, h5.mono e⟩)
theorem WOk.noM {K : PySem.W.Frag} {M M' : Addr → Prop} {R H : Hp} {x : D} {v : V} (k : ∀ a o, H a = some o → ¬ M a → ¬ M' a) : WOk K M R H x v → WOk K M' R H x v
  | .inl h => .inl h
  | .inr (.inl ⟨a, vs, ds, h1, h2, h3, h4, h5⟩) => .inr (.inl ⟨a, vs, ds, h1, h2, k a _ h4 h3, h4, h5⟩)
  | .inr (.inr ⟨a, vs, ds, h1, h2, h3, h4, h5⟩) => .inr (.inr ⟨a, vs, ds, h1, h2, k a _ h4 h3, h4, h5⟩)
inductive Slot where
  | no | any | d (x : D) | w (x : D) | own (o : OB) | sc (ns : List Int)

structure Cc where
  R0 : Hp
  H0 : Hp
  M : Addr → Prop
  oi : List (Nat × Addr)

def SlotOk (K : PySem.W.Frag) (c : Cc) (R H : Hp) : Slot → Option V → Prop
  | .no, o => o = none
  | .any, _ => True
  | .d x, o => ∃ v, o = some v ∧ Rp K R x v
  | .w x, o => ∃ v, o = some v ∧ WOk K (fun a => c.H0 a = none ∨ c.M a) R H x v
  | .own ob, o => ∃ a, o = some (.ref a) ∧ OBOk K R H a ob ∧ R a = none ∧ (c.H0 a = none ∨ c.M a)
  | .sc ns, o => ∃ a, o = some (.ref a) ∧ SqL K R a (ns.map V.int)

/-- what is true of slots and heaps between two steps of a def: R the frozen part, H all -/
structure SOk (K : PySem.W.Frag) (c : Cc) (Γ : List Slot) (σ : St) (R H : Hp) : Prop where
  rh : Ex R H
  r0 : Ex c.R0 R
  hm : ∀ a o, ¬ c.M a → c.H0 a = some o → H a = some o
  pr : ∀ a, c.H0 a ≠ none → H a ≠ none
  un : ∀ a, c.H0 a ≠ none → c.R0 a = none → R a = none
  len : Γ.length = σ.length
  sl : ∀ (i : Nat) (s : Slot), Γ[i]? = some s → ∃ o, σ[i]? = some o ∧ SlotOk K c R H s o
  dj : ∀ (i j : Nat) (a : Addr) (o o' : OB), Γ[i]? = some (.own o) → Γ[j]? = some (.own o') → σ[i]? = some (some (.ref a)) → σ[j]? = some (some (.ref a)) → i = j
  oi : ∀ p ∈ c.oi, σ[p.1]? = some (some (.ref p.2)) ∧ ∃ o, Γ[p.1]? = some (.own o)
/-- a fresh thing that no slot holds yet, or data -/
inductive Res where
  | d (x : D) | own (o : OB)
def VOk (K : PySem.W.Frag) (c : Cc) (Γ : List Slot) (σ : St) (R H : Hp) : Res → V → Prop
  | .d x, v => Rp K R x v
  | .own ob, v => ∃ a, v = .ref a ∧ OBOk K R H a ob ∧ R a = none ∧ c.H0 a = none ∧ ∀ (i : Nat) (o : OB), Γ[i]? = some (.own o) → σ[i]? ≠ some (some (.ref a))

/-- a step that only adds -/
structure Grow (R H R' H' : Hp) : Prop where
  r : Ex R R'
  h : Ex H H'
  rh : Ex R' H'
  un : ∀ a, H a ≠ none → R a = none → R' a = none
section
variable {K : PySem.W.Frag} {c : Cc} {Γ : List Slot} {σ : St} {R H R' H' : Hp}
theorem SlotOk.mono (e : Ex R R') (k : ∀ a o, H a = some o → H' a = some o) (un : ∀ a, H a ≠ none → R a = none → R' a = none) : ∀ {s : Slot} {o : Option V}, SlotOk K c R H s o → SlotOk K c R' H' s o
  | .no, _, h => h
  | .any, _, h => h
  | .d _, _, ⟨v, h1, h2⟩ => ⟨v, h1, h2.mono e⟩
  | .w _, _, ⟨v, h1, h2⟩ => ⟨v, h1, h2.mono e fun a o _ => k a o⟩
  | .own ob, _, ⟨a, h1, h2, h3, h4⟩ => ⟨a, h1, h2.mono e (k a), un a h2.there h3, h4⟩
  | .sc _, _, ⟨a, h1, h2⟩ => ⟨a, h1, ex_l e h2⟩
theorem SOk.grow (s : SOk K c Γ σ R H) (g : Grow R H R' H') : SOk K c Γ σ R' H' where
  rh := g.rh
  r0 := s.r0.trans g.r
  hm := fun a o n e => g.h a o (s.hm a o n e)
  pr := fun a n => g.h.ne (s.pr a n)
  un := fun a n e => g.un a (s.pr a n) (s.un a n e)
  len := s.len
  sl := fun i x e => let ⟨o, h1, h2⟩ := s.sl i x e; ⟨o, h1, h2.mono g.r g.h g.un⟩
  dj := s.dj
  oi := s.oi
theorem Grow.refl (e : Ex R H) : Grow R H R H := ⟨Ex.refl _, Ex.refl _, e, fun _ _ h => h⟩
theorem SOk.new (s : SOk K c Γ σ R H) {p : Addr} (o : HO) (hp : H p = none) : Grow R H (upd R p o) (upd H p o) where
  r := Ex.new (s.rh.back hp)
  h := Ex.new hp
  rh := fun a u e => by
    by_cases q : a = p
    · subst q; rw [upd_same] at e ⊢; exact e
    · rw [upd_ne q] at e ⊢; exact s.rh a u e
  un := fun a n e => by
    have q : a ≠ p := fun z => n (z ▸ hp)
    rw [upd_ne q]; exact e
theorem SOk.newOwn (s : SOk K c Γ σ R H) {p : Addr} (o : HO) (hp : H p = none) : Grow R H R (upd H p o) where
  r := Ex.refl _
  h := Ex.new hp
  rh := s.rh.trans (Ex.new hp)
  un := fun _ _ e => e
theorem VOk.mono (e : Ex R R') (k : ∀ a o, H a = some o → H' a = some o) (un : ∀ a, H a ≠ none → R a = none → R' a = none) : ∀ {r : Res} {v : V}, VOk K c Γ σ R H r v → VOk K c Γ σ R' H' r v
  | .d _, _, h => Rp.mono e _ _ h
  | .own ob, _, ⟨a, h1, h2, h3, h4⟩ => ⟨a, h1, h2.mono e (k a), un a h2.there h3, h4⟩
/-- a fresh list is frozen -/
theorem SOk.freeze {p : Addr} {ds : List D} (s : SOk K c Γ σ R H) {v : V} (h : VOk K c Γ σ R H (.own (.lst ds)) v) : ∃ R', SOk K c Γ σ R' H ∧ Ex R R' ∧ Rp K R' (.lst ds) v := by
  obtain ⟨a, h1, ⟨vs, h2, h3⟩, h4, h5, h6⟩ := h
  have e : Ex R (upd R a (.lst vs)) := Ex.new h4
  refine ⟨upd R a (.lst vs), ⟨fun b o q => ?_, s.r0.trans e, s.hm, s.pr, fun b n q => ?_, s.len, fun i x q => ?_, s.dj, s.oi⟩, e, a, vs, h1, upd_same, h3.mono e⟩
  · by_cases z : b = a
    · subst z; rw [upd_same] at q; cases q; exact h2
    · rw [upd_ne z] at q; exact s.rh b o q
  · have z : b ≠ a := fun z => n (z ▸ h5)
    rw [upd_ne z]; exact s.un b n q
  · obtain ⟨o, q1, q2⟩ := s.sl i x q
    refine ⟨o, q1, ?_⟩
    cases x with
    | no => exact q2
    | any => exact q2
    | d x => obtain ⟨v, z1, z2⟩ := q2; exact ⟨v, z1, z2.mono e⟩
    | w x => obtain ⟨v, z1, z2⟩ := q2; exact ⟨v, z1, z2.mono e fun _ _ _ h => h⟩
    | own ob =>
      obtain ⟨b, z1, z2, z3, z4⟩ := q2
      have z : b ≠ a := fun z => h6 i ob q (by rw [q1, z1, z])
      exact ⟨b, z1, z2.mono e fun _ h => h, by rw [upd_ne z]; exact z3, z4⟩
    | sc ns => obtain ⟨b, z1, z2⟩ := q2; exact ⟨b, z1, ex_l e z2⟩
end
end DL

end
section
set_option Elab.async false
set_option linter.all false
set_option autoImplicit true
set_option maxRecDepth 100000
set_option maxHeartbeats 400000
namespace DL
open PySem L2
open PyProof.Rows hiding St

def isStar : Expr → Bool
  | .Starred _ _ => true
  | _ => false
theorem se_c {e : Expr} {es : List Expr} {env : Env} (h : isStar e = false) : starEach (e :: es) env = (false, eval e env) :: starEach es env := by
  cases e <;> first | rfl | cases h
theorem se_1 {a : Expr} {env : Env} (h : isStar a = false) : starEach [a] env = [(false, eval a env)] := se_c h
theorem se_2 {a b : Expr} {env : Env} (h : isStar a = false) (h2 : isStar b = false) : starEach [a, b] env = [(false, eval a env), (false, eval b env)] := by rw [se_c h, se_c h2]; rfl
theorem se_any {pos : Pos} {es : List Expr} {env : Env} (h : es.all (fun e => !isStar e) = true) : (backTo pos (starEach es env)).any (·.1) = false := by
  induction es with
  | nil => rfl
  | cons e es ih =>
    simp only [List.all_cons, Bool.and_eq_true] at h
    rw [se_c (by simpa using h.1)]
    exact ih h.2
/-- names of a def by slot; V: seen here; as: may be stored here; GN: global names used; k: room; oi: slots that hold what the caller owns -/
structure Nm where
  N : List Str
  V : List Nat
  as : List Nat
  GN : List Str
  k : Nat
  oi : List Nat
  lc : List Nat := []
  sc : Option Scope := none

structure NOk (X : Cx) (n : Nm) (c : Cc) : Prop where
  eq : X.N = n.N
  nd : n.N.Nodup
  vis : ∀ (i : Nat) (x : Str), n.V.contains i = true → n.N[i]? = some x → Vis X.env.scope x
  loc : ∀ (i : Nat) (x : Str), n.as.contains i = true → n.N[i]? = some x → Loc X.env.scope x ∧ (X.fn x = true ∨ X.env.scope.names.lookup x = some .local)
  dbg : ∀ (i : Nat) (x : Str), n.N[i]? = some x → (x == ("__debug__" : Str)) = false ∧ (x == ("__classdict__" : Str)) = false
  gl : ∀ (i : Nat) (x : Str), n.GN[i]? = some x → Gl X x ∧ (x == ("__debug__" : Str)) = false ∧ x ≠ ("__name__" : Str)
  kind : X.env.scope.kind = .function
  scp : ∀ s, n.sc = some s → X.env.scope = s
  calm : X.calm = true
  room : Room n.k X.A
  po : PassesOwn (model X.prog X.w) X.A X.env X.xe
  lc : ∀ (i : Nat) (x : Str), n.lc.contains i = true → n.N[i]? = some x → X.env.scope.names.lookup x = some .local
  oi : c.oi.map (·.1) = n.oi
  cm : ∀ a, c.M a → ∃ j, (j, a) ∈ c.oi


abbrev SL := List Slot
def OB.data : OB → Option D
  | .lst ds => some (.lst ds)
  | .dic kvs => some (.dic kvs)
  | .sto => none
def Res.data : Res → Option D
  | .d x => some x
  | .own o => o.data

/-- read at this moment -/
def Wk (K : PySem.W.Frag) (R H : Hp) (x : D) (v : V) : Prop := WOk K (fun _ => False) R H x v
theorem WOk.wk {K : PySem.W.Frag} {M : Addr → Prop} {R H : Hp} {x : D} {v : V} : WOk K M R H x v → Wk K R H x v
  | .inl h => .inl h
  | .inr (.inl ⟨a, vs, ds, h1, h2, h3, h4, h5⟩) => .inr (.inl ⟨a, vs, ds, h1, h2, id, h4, h5⟩)
  | .inr (.inr ⟨a, vs, ds, h1, h2, h3, h4, h5⟩) => .inr (.inr ⟨a, vs, ds, h1, h2, id, h4, h5⟩)
theorem Rp.wk {K : PySem.W.Frag} {R H : Hp} {x : D} {v : V} (h : Rp K R x v) : Wk K R H x v := .inl h
theorem Wk.lst {K : PySem.W.Frag} {R H : Hp} {ds : List D} {v : V} (e : Ex R H) : Wk K R H (.lst ds) v → ∃ a vs, v = .ref a ∧ H a = some (.lst vs) ∧ RpL K R ds vs
  | .inl ⟨a, vs, h1, h2, h3⟩ => ⟨a, vs, h1, e a _ h2, h3⟩
  | .inr (.inl ⟨a, vs, es, h1, h2, h3, h4, h5⟩) => by cases h2; exact ⟨a, vs, h1, h4, h5⟩
  | .inr (.inr ⟨a, vs, es, h1, h2, h3, h4, h5⟩) => by cases h2
theorem Wk.tup {K : PySem.W.Frag} {R H : Hp} {ds : List D} {v : V} (e : Ex R H) : Wk K R H (.tup ds) v → ∃ a vs, v = .ref a ∧ SqT K H a vs ∧ RpL K R ds vs
  | .inl ⟨a, vs, h1, h2, h3⟩ => ⟨a, vs, h1, ex_t e h2, h3⟩
  | .inr (.inl ⟨a, vs, es, h1, h2, h3, h4, h5⟩) => by cases h2
  | .inr (.inr ⟨a, vs, es, h1, h2, h3, h4, h5⟩) => by cases h2
theorem Wk.dic {K : PySem.W.Frag} {R H : Hp} {ds : List (Key × D)} {v : V} (e : Ex R H) : Wk K R H (.dic ds) v → ∃ a vs, v = .ref a ∧ H a = some (.dK vs) ∧ RpK K R ds vs
  | .inl ⟨a, vs, h1, h2, h3⟩ => ⟨a, vs, h1, e a _ h2, h3⟩
  | .inr (.inl ⟨a, vs, es, h1, h2, h3, h4, h5⟩) => by cases h2
  | .inr (.inr ⟨a, vs, es, h1, h2, h3, h4, h5⟩) => by cases h2; exact ⟨a, vs, h1, h4, h5⟩
theorem Wk.int {K : PySem.W.Frag} {R H : Hp} {i : Int} {v : V} : Wk K R H (.int i) v → v = .int i
  | .inl h => h
  | .inr (.inl ⟨a, vs, es, h1, h2, h3, h4, h5⟩) => by cases h2
  | .inr (.inr ⟨a, vs, es, h1, h2, h3, h4, h5⟩) => by cases h2
theorem Wk.bl {K : PySem.W.Frag} {R H : Hp} {i : Bool} {v : V} : Wk K R H (.bl i) v → v = .bl i
  | .inl h => h
  | .inr (.inl ⟨a, vs, es, h1, h2, h3, h4, h5⟩) => by cases h2
  | .inr (.inr ⟨a, vs, es, h1, h2, h3, h4, h5⟩) => by cases h2
theorem Wk.str {K : PySem.W.Frag} {R H : Hp} {i : Str} {v : V} : Wk K R H (.str i) v → v = .str i
  | .inl h => h
  | .inr (.inl ⟨a, vs, es, h1, h2, h3, h4, h5⟩) => by cases h2
  | .inr (.inr ⟨a, vs, es, h1, h2, h3, h4, h5⟩) => by cases h2
theorem Wk.non {K : PySem.W.Frag} {R H : Hp} {v : V} : Wk K R H .non v → v = .non
  | .inl h => h
  | .inr (.inl ⟨a, vs, es, h1, h2, h3, h4, h5⟩) => by cases h2
  | .inr (.inr ⟨a, vs, es, h1, h2, h3, h4, h5⟩) => by cases h2

/-! ### the weakest readings -/
section
variable (X : Cx)
def tW (e : Expr) : TE := fun σ H Q => ∀ (pins : List (Addr × Obj)) (s : Shared), Inv X pins σ H s → wpAny (model X.prog X.w) X.A (eval e X.env) (EP X pins σ Q) X.xe s
def tWT (e : Expr) : TT := fun σ H Q => ∀ (pins : List (Addr × Obj)) (s : Shared), Inv X pins σ H s → wpAny (model X.prog X.w) X.A (isTrue e X.env (eval e X.env)) (TP X pins σ Q) X.xe s
def tWW (e : Expr) : TT := fun σ H Q => ∀ (whole : Sem Value) (pins : List (Addr × Obj)) (s : Shared), Inv X pins σ H s → wpAny (model X.prog X.w) X.A (isTrue e X.env whole) (TP X pins σ Q) X.xe s
def tWA (es : List Expr) : TA := fun σ H Q => ∀ (pos : Pos) (pins : List (Addr × Obj)) (s : Shared), Inv X pins σ H s → wpAny (model X.prog X.w) X.A (spliced (backTo pos (starEach es X.env))) (AP X pins σ Q) X.xe s
def tWS (st : Stmt) : TS := fun D σ H => ∀ (pins : List (Addr × Obj)) (s : Shared), Inv X pins σ H s → wpAny (model X.prog X.w) X.A (exec st X.env) (SP X pins D) X.xe s
def tWB (sts : List Stmt) : TS := fun D σ H => ∀ (pins : List (Addr × Obj)) (s : Shared), Inv X pins σ H s → wpAny (model X.prog X.w) X.A (execs sts X.env) (SP X pins D) X.xe s
end
section
variable {X : Cx}
theorem pW {e : Expr} : PE X e (tW X e) := ⟨fun pins s _ _ _ I h => h pins s I⟩
theorem pWT {e : Expr} : PT X e (tWT X e) := ⟨fun pins s _ _ _ I h => h pins s I⟩
theorem pWW {e : Expr} : PW X e (tWW X e) := ⟨fun wh pins s _ _ _ I h => h wh pins s I⟩
theorem pWA {e : List Expr} : PA X e (tWA X e) := ⟨fun pos pins s _ _ _ I h => h pos pins s I⟩
theorem pWS {e : Stmt} : PS X e (tWS X e) := ⟨fun pins s _ _ _ I h => h pins s I⟩
theorem pWB {e : List Stmt} : PSs X e (tWB X e) := ⟨fun pins s _ _ _ I h => h pins s I⟩
theorem _root_.L2.PE.w {e : Expr} {t : TE} (h : PE X e t) {σ H Q} (q : t σ H Q) : tW X e σ H Q := fun pins s I => h.run pins s σ H Q I q
theorem _root_.L2.PT.w {e : Expr} {t : TT} (h : PT X e t) {σ H Q} (q : t σ H Q) : tWT X e σ H Q := fun pins s I => h.run pins s σ H Q I q
theorem _root_.L2.PW.w {e : Expr} {t : TT} (h : PW X e t) {σ H Q} (q : t σ H Q) : tWW X e σ H Q := fun wh pins s I => h.run wh pins s σ H Q I q
theorem _root_.L2.PA.w {e : List Expr} {t : TA} (h : PA X e t) {σ H Q} (q : t σ H Q) : tWA X e σ H Q := fun pos pins s I => h.run pos pins s σ H Q I q
theorem _root_.L2.PS.w {e : Stmt} {t : TS} (h : PS X e t) {D σ H} (q : t D σ H) : tWS X e D σ H := fun pins s I => h.run pins s σ H D I q
theorem _root_.L2.PSs.w {e : List Stmt} {t : TS} (h : PSs X e t) {D σ H} (q : t D σ H) : tWB X e D σ H := fun pins s I => h.run pins s σ H D I q
end

/-! ### judgements -/
section
variable (X : Cx) (n : Nm) (c : Cc)
structure WE (Γ : SL) (e : Expr) (Post : D → SL → Prop) : Prop where
  run : NOk X n c → ∀ σ R H, SOk X.K c Γ σ R H → ∀ Q : VK,
  (∀ v R' H' x Γ', SOk X.K c Γ' σ R' H' → Ex R R' → Rp X.K R' x v → Post x Γ' → Q v H') → tW X e σ H Q
/-- a value that is read at once: data, or what a slot holds -/
structure WV (Γ : SL) (e : Expr) (Post : D → SL → Prop) : Prop where
  run : NOk X n c → ∀ σ R H, SOk X.K c Γ σ R H → ∀ Q : VK,
  (∀ v R' H' x Γ', SOk X.K c Γ' σ R' H' → Ex R R' → Wk X.K R' H' x v → Post x Γ' → Q v H') → tW X e σ H Q
structure WO (Γ : SL) (e : Expr) (Post : OB → SL → Prop) : Prop where
  run : NOk X n c → ∀ σ R H, SOk X.K c Γ σ R H → ∀ Q : VK,
  (∀ v R' H' o Γ', SOk X.K c Γ' σ R' H' → Ex R R' → VOk X.K c Γ' σ R' H' (.own o) v → Post o Γ' → Q v H') → tW X e σ H Q
structure WT (Γ : SL) (e : Expr) (Post : Bool → SL → Prop) : Prop where
  run : NOk X n c → ∀ σ R H, SOk X.K c Γ σ R H → ∀ Q : Bool → Hp → Prop,
  (∀ R' H' b Γ', SOk X.K c Γ' σ R' H' → Ex R R' → Post b Γ' → Q b H') → tWT X e σ H Q
structure WW (Γ : SL) (e : Expr) (Post : Bool → SL → Prop) : Prop where
  run : NOk X n c → ∀ σ R H, SOk X.K c Γ σ R H → ∀ Q : Bool → Hp → Prop,
  (∀ R' H' b Γ', SOk X.K c Γ' σ R' H' → Ex R R' → Post b Γ' → Q b H') → tWW X e σ H Q
/-- d: data; v: data for a read-only parameter; s: what slot i holds, read-only; o: what slot i owns, lent -/
inductive AK where
  | d (x : D) | v (x : D) | s (i : Nat) | o (i : Nat)
def AkOk (K : PySem.W.Frag) (R : Hp) (σ : St) : AK → V → Prop
  | .d x, v => Rp K R x v
  | .v x, v => Rp K R x v
  | .s i, v => σ[i]? = some (some v)
  | .o i, v => σ[i]? = some (some v)
def AksOk (K : PySem.W.Frag) (R : Hp) (σ : St) : List AK → List V → Prop
  | [], vs => vs = []
  | k :: ks, vs => ∃ v ws, vs = v :: ws ∧ AkOk K R σ k v ∧ AksOk K R σ ks ws
structure WA (Γ : SL) (es : List Expr) (Post : List AK → SL → Prop) : Prop where
  run : NOk X n c → ∀ σ R H, SOk X.K c Γ σ R H → ∀ Q : List V → Hp → Prop,
  (∀ vs R' H' ks Γ', SOk X.K c Γ' σ R' H' → Ex R R' → AksOk X.K R' σ ks vs → Post ks Γ' → Q vs H') → tWA X es σ H Q
abbrev EV (Γ : SL) (e : Expr) (x : D) : Prop := WE X n c Γ e fun y Γ' => y = x ∧ Γ' = Γ
abbrev EVV (Γ : SL) (e : Expr) (x : D) : Prop := WV X n c Γ e fun y Γ' => y = x ∧ Γ' = Γ
abbrev EO (Γ : SL) (e : Expr) (o : OB) : Prop := WO X n c Γ e fun y Γ' => y = o ∧ Γ' = Γ
abbrev ET (Γ : SL) (e : Expr) (b : Bool) : Prop := WT X n c Γ e fun y Γ' => y = b ∧ Γ' = Γ
abbrev EW (Γ : SL) (e : Expr) (b : Bool) : Prop := WW X n c Γ e fun y Γ' => y = b ∧ Γ' = Γ
abbrev EA (Γ : SL) (es : List Expr) (ks : List AK) : Prop := WA X n c Γ es fun y Γ' => y = ks ∧ Γ' = Γ
end

section
variable {X : Cx} {n : Nm} {c : Cc} {Γ : SL} {e a b : Expr} {x y z : D}
theorem WE.mono {P P' : D → SL → Prop} (h : WE X n c Γ e P) (k : ∀ x Γ, P x Γ → P' x Γ) : WE X n c Γ e P' := .mk fun hn σ R H s Q q =>
  h.run hn σ R H s Q fun v R' H' x Γ' s' e r p => q v R' H' x Γ' s' e r (k _ _ p)
theorem WV.mono {P P' : D → SL → Prop} (h : WV X n c Γ e P) (k : ∀ x Γ, P x Γ → P' x Γ) : WV X n c Γ e P' := .mk fun hn σ R H s Q q =>
  h.run hn σ R H s Q fun v R' H' x Γ' s' e r p => q v R' H' x Γ' s' e r (k _ _ p)
theorem WO.mono {P P' : OB → SL → Prop} (h : WO X n c Γ e P) (k : ∀ x Γ, P x Γ → P' x Γ) : WO X n c Γ e P' := .mk fun hn σ R H s Q q =>
  h.run hn σ R H s Q fun v R' H' x Γ' s' e r p => q v R' H' x Γ' s' e r (k _ _ p)
theorem WT.mono {P P' : Bool → SL → Prop} (h : WT X n c Γ e P) (k : ∀ x Γ, P x Γ → P' x Γ) : WT X n c Γ e P' := .mk fun hn σ R H s Q q =>
  h.run hn σ R H s Q fun R' H' x Γ' s' e p => q R' H' x Γ' s' e (k _ _ p)
theorem WW.mono {P P' : Bool → SL → Prop} (h : WW X n c Γ e P) (k : ∀ x Γ, P x Γ → P' x Γ) : WW X n c Γ e P' := .mk fun hn σ R H s Q q =>
  h.run hn σ R H s Q fun R' H' x Γ' s' e p => q R' H' x Γ' s' e (k _ _ p)
theorem WA.mono {es : List Expr} {P P' : List AK → SL → Prop} (h : WA X n c Γ es P) (k : ∀ x Γ, P x Γ → P' x Γ) : WA X n c Γ es P' := .mk fun hn σ R H s Q q =>
  h.run hn σ R H s Q fun v R' H' x Γ' s' e r p => q v R' H' x Γ' s' e r (k _ _ p)
theorem WE.v {P : D → SL → Prop} (h : WE X n c Γ e P) : WV X n c Γ e P := .mk fun hn σ R H s Q q =>
  h.run hn σ R H s Q fun v R' H' x Γ' s' e r p => q v R' H' x Γ' s' e r.wk p
theorem we_of {P : D → SL → Prop} (h : EV X n c Γ e x) (p : P x Γ) : WE X n c Γ e P := h.mono fun y Γ' ⟨h1, h2⟩ => by subst h1 h2; exact p
theorem wv_of {P : D → SL → Prop} (h : EVV X n c Γ e x) (p : P x Γ) : WV X n c Γ e P := h.mono fun y Γ' ⟨h1, h2⟩ => by subst h1 h2; exact p
theorem wo_of {o : OB} {P : OB → SL → Prop} (h : EO X n c Γ e o) (p : P o Γ) : WO X n c Γ e P := h.mono fun y Γ' ⟨h1, h2⟩ => by subst h1 h2; exact p
theorem wt_of {o : Bool} {P : Bool → SL → Prop} (h : ET X n c Γ e o) (p : P o Γ) : WT X n c Γ e P := h.mono fun y Γ' ⟨h1, h2⟩ => by subst h1 h2; exact p
theorem ww_of {o : Bool} {P : Bool → SL → Prop} (h : EW X n c Γ e o) (p : P o Γ) : WW X n c Γ e P := h.mono fun y Γ' ⟨h1, h2⟩ => by subst h1 h2; exact p
theorem wa_of {es : List Expr} {o : List AK} {P : List AK → SL → Prop} (h : EA X n c Γ es o) (p : P o Γ) : WA X n c Γ es P := h.mono fun y Γ' ⟨h1, h2⟩ => by subst h1 h2; exact p
theorem EV.v (h : EV X n c Γ e x) : EVV X n c Γ e x := WE.v h
theorem ev_is (h : EV X n c Γ e x) (q : x = y) : EV X n c Γ e y := q ▸ h
theorem et_is {p q : Bool} (h : ET X n c Γ e p) (r : p = q) : ET X n c Γ e q := r ▸ h

/-! ### names, constants -/
theorem ev_var (i : Nat) {nm : Str} {pos : Pos} (hg : Γ[i]? = some (.d x) := by rfl) (hi : n.N[i]? = some nm := by rfl) (hv : n.V.contains i = true := by rfl) : EV X n c Γ (.Name nm pos) x := .mk fun hn σ R H s Q q => by
  obtain ⟨h1, h2⟩ := hn.dbg i nm hi
  refine (pe_var (i := i) (by rw [hn.eq]; exact hi) (hn.vis i nm hv hi) h1 h2).w ?_
  obtain ⟨o, e1, v, e2, r⟩ := s.sl i _ hg
  subst e2
  exact ⟨v, e1, q v R H x Γ s (Ex.refl _) r ⟨rfl, rfl⟩⟩
/-- what a slot holds, as data that is read -/
def Slot.data : Slot → Option D
  | .d x => some x
  | .w x => some x
  | .own o => o.data
  | _ => none
theorem SlotOk.wk {K : PySem.W.Frag} {R H : Hp} {s : Slot} {o : Option V} {x : D} (h : SlotOk K c R H s o) (e : s.data = some x) : ∃ v, o = some v ∧ Wk K R H x v := by
  cases s with
  | d y => cases e; obtain ⟨v, h1, h2⟩ := h; exact ⟨v, h1, .inl h2⟩
  | w y => cases e; obtain ⟨v, h1, h2⟩ := h; exact ⟨v, h1, h2.wk⟩
  | own ob =>
    obtain ⟨a, h1, h2, _⟩ := h
    cases ob with
    | lst ds => cases e; obtain ⟨vs, h2, h3⟩ := h2; exact ⟨_, h1, .inr (.inl ⟨a, vs, ds, rfl, rfl, id, h2, h3⟩)⟩
    | dic ds => cases e; obtain ⟨vs, h2, h3⟩ := h2; exact ⟨_, h1, .inr (.inr ⟨a, vs, ds, rfl, rfl, id, h2, h3⟩)⟩
    | sto => cases e
  | _ => cases e
theorem evv_slot (i : Nat) {s : Slot} {nm : Str} {pos : Pos} (hg : Γ[i]? = some s := by rfl) (hs : s.data = some x := by rfl) (hi : n.N[i]? = some nm := by rfl) (hv : n.V.contains i = true := by rfl) : EVV X n c Γ (.Name nm pos) x := .mk fun hn σ R H s Q q => by
  obtain ⟨h1, h2⟩ := hn.dbg i nm hi
  refine (pe_var (i := i) (by rw [hn.eq]; exact hi) (hn.vis i nm hv hi) h1 h2).w ?_
  obtain ⟨o, e1, h⟩ := s.sl i _ hg
  obtain ⟨v, e2, r⟩ := h.wk hs
  subst e2
  exact ⟨v, e1, q v R H x Γ s (Ex.refl _) r ⟨rfl, rfl⟩⟩
theorem ev_c {v : V} (h : PE X e (tC v)) (r : ∀ R, Rp X.K R x v) : EV X n c Γ e x := .mk fun hn σ R H s Q q =>
  h.w (q v R H x Γ s (Ex.refl _) (r R) ⟨rfl, rfl⟩)
theorem ev_int {i : Int} {j pos} : EV X n c Γ (.Constant (.int i) j pos) (.int i) := ev_c pe_int fun _ => rfl
theorem ev_bl {i : Bool} {j pos} : EV X n c Γ (.Constant (.bool i) j pos) (.bl i) := ev_c pe_bl fun _ => rfl
theorem ev_str {i : Str} {j pos} : EV X n c Γ (.Constant (.str i) j pos) (.str i) := ev_c pe_str fun _ => rfl
theorem ev_non {j pos} : EV X n c Γ (.Constant .none j pos) .non := ev_c pe_non fun _ => rfl
/-- a module's constant -/
structure Con (X : Cx) (nm : Str) (x : D) : Prop where
  ex : ∃ v u, X.mg nm = some u ∧ RelV v u ∧ ∀ R, Rp X.K R x v
theorem ev_glob (j : Nat) {nm : Str} {pos : Pos} (hc : Con X nm x) (hj : n.GN[j]? = some nm := by rfl) : EV X n c Γ (.Name nm pos) x := .mk fun hn => by
  obtain ⟨v, u, h1, h2, h3⟩ := hc.ex
  obtain ⟨g1, g2, g3⟩ := hn.gl j nm hj
  exact (ev_c (pe_glob g1 h1 h2 g2) h3).run hn

/-! ### operands: data, or what a slot holds, read when all is there -/
def AK.get (Γ : SL) : AK → Option D
  | .d x => some x
  | .v x => some x
  | .s i => (Γ[i]?).bind Slot.data
  | .o i => (Γ[i]?).bind Slot.data
theorem AkOk.mono {K : PySem.W.Frag} {R R' : Hp} {σ : St} (e : Ex R R') : ∀ {k : AK} {v : V}, AkOk K R σ k v → AkOk K R' σ k v
  | .d _, _, h => Rp.mono e _ _ h
  | .v _, _, h => Rp.mono e _ _ h
  | .s _, _, h => h
  | .o _, _, h => h
theorem AksOk.mono {K : PySem.W.Frag} {R R' : Hp} {σ : St} (e : Ex R R') : ∀ {k : List AK} {v : List V}, AksOk K R σ k v → AksOk K R' σ k v
  | [], _, h => h
  | _ :: _, _, ⟨v, ws, h1, h2, h3⟩ => ⟨v, ws, h1, h2.mono e, h3.mono e⟩
theorem AkOk.wk {K : PySem.W.Frag} {R H : Hp} {σ : St} (s : SOk K c Γ σ R H) : ∀ {k : AK} {v : V} {x : D}, AkOk K R σ k v → k.get Γ = some x → Wk K R H x v
  | .d _, _, _, h, e => by cases e; exact .inl h
  | .v _, _, _, h, e => by cases e; exact .inl h
  | .s i, v, x, h, e => by
    obtain ⟨sl, e1, e2⟩ := Option.bind_eq_some_iff.mp e
    obtain ⟨o, q1, q2⟩ := s.sl i sl e1
    rw [show σ[i]? = some (some v) from h] at q1; cases q1
    obtain ⟨w, q3, q4⟩ := q2.wk e2
    cases q3; exact q4
  | .o i, v, x, h, e => by
    obtain ⟨sl, e1, e2⟩ := Option.bind_eq_some_iff.mp e
    obtain ⟨o, q1, q2⟩ := s.sl i sl e1
    rw [show σ[i]? = some (some v) from h] at q1; cases q1
    obtain ⟨w, q3, q4⟩ := q2.wk e2
    cases q3; exact q4
def gets (Γ : SL) : List AK → Option (List D)
  | [] => some []
  | k :: ks => match k.get Γ, gets Γ ks with
    | some x, some xs => some (x :: xs)
    | _, _ => none
def Wks (K : PySem.W.Frag) (R H : Hp) : List D → List V → Prop
  | [], vs => vs = []
  | x :: xs, vs => ∃ v ws, vs = v :: ws ∧ Wk K R H x v ∧ Wks K R H xs ws
theorem AksOk.wks {K : PySem.W.Frag} {R H : Hp} {σ : St} (s : SOk K c Γ σ R H) : ∀ {k : List AK} {v : List V} {x : List D}, AksOk K R σ k v → gets Γ k = some x → Wks K R H x v
  | [], v, x, h, e => by cases e; exact h
  | k :: ks, v, x, ⟨v1, ws, h1, h2, h3⟩, e => by
    unfold gets at e
    split at e
    · rename_i y ys e1 e2
      cases e
      exact ⟨v1, ws, h1, h2.wk s e1, h3.wks s e2⟩
    · cases e
/-- an operand -/
structure WK (X : Cx) (n : Nm) (c : Cc) (Γ : SL) (e : Expr) (Post : AK → SL → Prop) : Prop where
  run : NOk X n c → ∀ σ R H, SOk X.K c Γ σ R H → ∀ Q : VK,
  (∀ v R' H' k Γ', SOk X.K c Γ' σ R' H' → Ex R R' → AkOk X.K R' σ k v → Post k Γ' → Q v H') → tW X e σ H Q
abbrev EK (X : Cx) (n : Nm) (c : Cc) (Γ : SL) (e : Expr) (k : AK) : Prop := WK X n c Γ e fun y Γ' => y = k ∧ Γ' = Γ
theorem WK.mono {P P' : AK → SL → Prop} (h : WK X n c Γ e P) (k : ∀ x Γ, P x Γ → P' x Γ) : WK X n c Γ e P' := .mk fun hn σ R H s Q q =>
  h.run hn σ R H s Q fun v R' H' x Γ' s' e r p => q v R' H' x Γ' s' e r (k _ _ p)
theorem wk_ek {k : AK} {P : AK → SL → Prop} (h : EK X n c Γ e k) (p : P k Γ) : WK X n c Γ e P := h.mono fun y Γ' ⟨h1, h2⟩ => by subst h1 h2; exact p
theorem wk_e {P : AK → SL → Prop} (h : WE X n c Γ e fun x Γ' => P (.d x) Γ') : WK X n c Γ e P := .mk fun hn σ R H s Q q =>
  h.run hn σ R H s Q fun v R' H' x Γ' s' e r p => q v R' H' (.d x) Γ' s' e r p
theorem wk_v {P : AK → SL → Prop} (h : WE X n c Γ e fun x Γ' => P (.v x) Γ') : WK X n c Γ e P := .mk fun hn σ R H s Q q =>
  h.run hn σ R H s Q fun v R' H' x Γ' s' e r p => q v R' H' (.v x) Γ' s' e r p
theorem ek_d (h : EV X n c Γ e x) : EK X n c Γ e (.d x) := wk_e (we_of h ⟨rfl, rfl⟩)
theorem ek_v (h : EV X n c Γ e x) : EK X n c Γ e (.v x) := wk_v (we_of h ⟨rfl, rfl⟩)
def Slot.set : Slot → Bool
  | .no => false
  | .any => false
  | _ => true
theorem SlotOk.val {K : PySem.W.Frag} {R H : Hp} {s : Slot} {o : Option V} (h : SlotOk K c R H s o) (e : s.set = true) : ∃ v, o = some v := by
  cases s with
  | no => cases e
  | any => cases e
  | d y => obtain ⟨v, h1, _⟩ := h; exact ⟨v, h1⟩
  | w y => obtain ⟨v, h1, _⟩ := h; exact ⟨v, h1⟩
  | own ob => obtain ⟨v, h1, _⟩ := h; exact ⟨_, h1⟩
  | sc ns => obtain ⟨v, h1, _⟩ := h; exact ⟨_, h1⟩
theorem ek_n (k : AK) (i : Nat) (hk : ∀ R σ v, σ[i]? = some (some v) → AkOk X.K R σ k v) {s : Slot} {nm : Str} {pos : Pos} (hg : Γ[i]? = some s) (hs : s.set = true) (hi : n.N[i]? = some nm) (hv : n.V.contains i = true) : EK X n c Γ (.Name nm pos) k := .mk fun hn σ R H s Q q => by
  obtain ⟨h1, h2⟩ := hn.dbg i nm hi
  refine (pe_var (i := i) (by rw [hn.eq]; exact hi) (hn.vis i nm hv hi) h1 h2).w ?_
  obtain ⟨o, e1, h⟩ := s.sl i _ hg
  obtain ⟨v, e2⟩ := h.val hs
  subst e2
  exact ⟨v, e1, q v R H k Γ s (Ex.refl _) (hk R σ v e1) ⟨rfl, rfl⟩⟩
theorem ek_s (i : Nat) {s : Slot} {nm : Str} {pos : Pos} (hg : Γ[i]? = some s := by rfl) (hs : s.set = true := by rfl) (hi : n.N[i]? = some nm := by rfl) (hv : n.V.contains i = true := by rfl) : EK X n c Γ (.Name nm pos) (.s i) := ek_n (.s i) i (fun _ _ _ h => h) hg hs hi hv
theorem ek_o (i : Nat) {s : Slot} {nm : Str} {pos : Pos} (hg : Γ[i]? = some s := by rfl) (hs : s.set = true := by rfl) (hi : n.N[i]? = some nm := by rfl) (hv : n.V.contains i = true := by rfl) : EK X n c Γ (.Name nm pos) (.o i) := ek_n (.o i) i (fun _ _ _ h => h) hg hs hi hv

/-! ### argument lists -/
theorem wa_nil {P : List AK → SL → Prop} (p : P [] Γ) : WA X n c Γ [] P := .mk fun hn σ R H s Q q => pa_nil.w (q [] R H [] Γ s (Ex.refl _) rfl p)
theorem wa_cons {es : List Expr} {P : List AK → SL → Prop} (h : WK X n c Γ e fun k Γ1 => WA X n c Γ1 es fun ks Γ2 => P (k :: ks) Γ2) (hs : starEach (e :: es) X.env = (false, eval e X.env) :: starEach es X.env := by exact se_c rfl) : WA X n c Γ (e :: es) P := .mk fun hn σ R H s Q q =>
  (pa_cons pW pWA hs).w (h.run hn σ R H s _ fun v R1 H1 k Γ1 s1 e1 r1 p1 => p1.run hn σ R1 H1 s1 _ fun vs R2 H2 ks Γ2 s2 e2 r2 p2 =>
    q (v :: vs) R2 H2 (k :: ks) Γ2 s2 (e1.trans e2) ⟨v, vs, rfl, r1.mono e2, r2⟩ p2)
theorem ea_nil : EA X n c Γ [] [] := wa_nil ⟨rfl, rfl⟩
theorem ea_cons {es : List Expr} {k : AK} {ks : List AK} (h : EK X n c Γ e k) (t : EA X n c Γ es ks) (hs : starEach (e :: es) X.env = (false, eval e X.env) :: starEach es X.env := by exact se_c rfl) : EA X n c Γ (e :: es) (k :: ks) :=
  wa_cons (wk_ek h (wa_of t ⟨rfl, rfl⟩)) hs

/-! ### operators on data -/
/-- an operation on two things that are read: P tells what it wants and gives -/
def DOp (X : Cx) (n : Nm) (c : Cc) (f : Value → Value → Sem Value) (P : D → D → (D → Prop) → Prop) : Prop := NOk X n c → ∃ r, OpR X f r ∧
  ∀ Γ σ R H x y v w Post, SOk X.K c Γ σ R H → Wk X.K R H x v → Wk X.K R H y w → P x y Post → ∀ Q : VK,
    (∀ u R' H' z, SOk X.K c Γ σ R' H' → Ex R R' → Rp X.K R' z u → Post z → Q u H') → r v w H Q
variable {f : Value → Value → Sem Value} {P : D → D → (D → Prop) → Prop} {pos : Pos} {k l : AK}
theorem we_bin {op : Operator} {Post : D → SL → Prop} (ho : DOp X n c (binaryOp op) P) (h : WK X n c Γ a fun k Γ1 => WK X n c Γ1 b fun l Γ2 => ∃ x y, k.get Γ2 = some x ∧ l.get Γ2 = some y ∧ P x y fun z => Post z Γ2) : WE X n c Γ (.BinOp a op b pos) Post := .mk fun hn σ R H s Q q => by
  obtain ⟨r, h1, h2⟩ := ho hn
  refine (pe_op h1 pW pW).w (h.run hn σ R H s _ fun v R1 H1 k Γ1 s1 e1 r1 p1 => p1.run hn σ R1 H1 s1 _ fun w R2 H2 l Γ2 s2 e2 r2 ⟨x, y, g1, g2, p2⟩ => ?_)
  exact h2 Γ2 σ R2 H2 x y v w _ s2 ((r1.mono e2).wk s2 g1) (r2.wk s2 g2) p2 Q fun u R' H' z s' e' r' p' => q u R' H' z Γ2 s' (e1.trans (e2.trans e')) r' p'
theorem ev_bin {op : Operator} (ho : DOp X n c (binaryOp op) P) (ha : EK X n c Γ a k) (hb : EK X n c Γ b l) (ga : k.get Γ = some x) (gb : l.get Γ = some y) (h : ∀ Post : D → Prop, Post z → P x y Post) : EV X n c Γ (.BinOp a op b pos) z :=
  we_bin ho (wk_ek ha (wk_ek hb ⟨x, y, ga, gb, h _ ⟨rfl, rfl⟩⟩))
/-- two ints -/
def PI2 (C : Int → Int → Prop) (g : Int → Int → D) : D → D → (D → Prop) → Prop := fun x y Post => ∃ i j, x = .int i ∧ y = .int j ∧ C i j ∧ Post (g i j)
theorem dop_I {C : Int → Int → Prop} {g : Int → Int → V} {g' : Int → Int → D} (h : OpR X f (rI C g)) (e : ∀ i j R, Rp X.K R (g' i j) (g i j)) : DOp X n c f (PI2 C g') := fun _ => ⟨_, h, fun Γ σ R H x y v w Post s hx hy ⟨i, j, e1, e2, hc, p⟩ Q q => by
  subst e1 e2
  exact ⟨i, j, hx.int, hy.int, hc, q _ R H _ s (Ex.refl _) (e i j R) p⟩⟩
theorem dop_I0 {g : Int → Int → V} {g' : Int → Int → D} (h : OpR X f (rI0 g)) (e : ∀ i j R, Rp X.K R (g' i j) (g i j)) : DOp X n c f (PI2 (fun _ _ => True) g') := fun _ => ⟨_, h, fun Γ σ R H x y v w Post s hx hy ⟨i, j, e1, e2, hc, p⟩ Q q => by
  subst e1 e2
  exact ⟨i, j, hx.int, hy.int, q _ R H _ s (Ex.refl _) (e i j R) p⟩⟩
def CDivA (_ j : Int) : Prop := j ≠ 0 ∧ j.natAbs.log2 < 9000
theorem op_fdivA : OpR X (binaryOp .FloorDiv) (rI CDivA fun i j => .int (i.fdiv j)) := opI fun i j _ _ _ _ _ hc q => floordiv_int hc.1 q (.inl (PyProof.noPylong_of_log2 hc.2))
theorem dop_add : DOp X n c (binaryOp .Add) (PI2 (fun _ _ => True) fun i j => .int (i + j)) := dop_I0 op_add fun _ _ _ => rfl
theorem dop_sub : DOp X n c (binaryOp .Sub) (PI2 (fun _ _ => True) fun i j => .int (i - j)) := dop_I0 op_sub fun _ _ _ => rfl
theorem dop_mul : DOp X n c (binaryOp .Mult) (PI2 CMulW fun i j => .int (i * j)) := dop_I op_mulW fun _ _ _ => rfl
theorem dop_mul64 : DOp X n c (binaryOp .Mult) (PI2 CMul fun i j => .int (i * j)) := dop_I op_mul fun _ _ _ => rfl
theorem dop_fdiv : DOp X n c (binaryOp .FloorDiv) (PI2 CDivA fun i j => .int (i.fdiv j)) := dop_I op_fdivA fun _ _ _ => rfl
theorem dop_mod : DOp X n c (binaryOp .Mod) (PI2 (fun _ j => j ≠ 0) fun i j => .int (i.fmod j)) := dop_I op_modN fun _ _ _ => rfl
theorem dop_pow : DOp X n c (binaryOp .Pow) (PI2 CPow fun i j => .int (i ^ j.toNat)) := dop_I op_pow fun _ _ _ => rfl
theorem dop_lt : DOp X n c (compareOp .Lt) (PI2 (fun _ _ => True) fun i j => .bl (decide (i < j))) := dop_I0 op_lt fun _ _ _ => rfl
theorem dop_le : DOp X n c (compareOp .LtE) (PI2 (fun _ _ => True) fun i j => .bl (decide (i ≤ j))) := dop_I0 op_le fun _ _ _ => rfl
theorem dop_gt : DOp X n c (compareOp .Gt) (PI2 (fun _ _ => True) fun i j => .bl (decide (j < i))) := dop_I0 op_gt fun _ _ _ => rfl
theorem dop_ge : DOp X n c (compareOp .GtE) (PI2 (fun _ _ => True) fun i j => .bl (decide (j ≤ i))) := dop_I0 op_ge fun _ _ _ => rfl
variable {i j : Int}
theorem ev_i2 {op : Operator} {C : Int → Int → Prop} {g : Int → Int → D} (ho : DOp X n c (binaryOp op) (PI2 C g)) (ha : EV X n c Γ a (.int i)) (hb : EV X n c Γ b (.int j)) (hc : C i j) : EV X n c Γ (.BinOp a op b pos) (g i j) :=
  ev_bin ho (ek_d ha) (ek_d hb) rfl rfl fun _ p => ⟨i, j, rfl, rfl, hc, p⟩
theorem ev_add (ha : EV X n c Γ a (.int i)) (hb : EV X n c Γ b (.int j)) : EV X n c Γ (.BinOp a .Add b pos) (.int (i + j)) := ev_i2 dop_add ha hb trivial
theorem ev_sub (ha : EV X n c Γ a (.int i)) (hb : EV X n c Γ b (.int j)) : EV X n c Γ (.BinOp a .Sub b pos) (.int (i - j)) := ev_i2 dop_sub ha hb trivial
theorem ev_mul (ha : EV X n c Γ a (.int i)) (hb : EV X n c Γ b (.int j)) (hc : CMulW i j) : EV X n c Γ (.BinOp a .Mult b pos) (.int (i * j)) := ev_i2 dop_mul ha hb hc
theorem ev_mul64 (ha : EV X n c Γ a (.int i)) (hb : EV X n c Γ b (.int j)) (hc : CMul i j) : EV X n c Γ (.BinOp a .Mult b pos) (.int (i * j)) := ev_i2 dop_mul64 ha hb hc
theorem ev_fdiv (ha : EV X n c Γ a (.int i)) (hb : EV X n c Γ b (.int j)) (hc : CDivA i j) : EV X n c Γ (.BinOp a .FloorDiv b pos) (.int (i.fdiv j)) := ev_i2 dop_fdiv ha hb hc
theorem ev_mod (ha : EV X n c Γ a (.int i)) (hb : EV X n c Γ b (.int j)) (hc : j ≠ 0) : EV X n c Γ (.BinOp a .Mod b pos) (.int (i.fmod j)) := ev_i2 dop_mod ha hb hc
theorem ev_pow (ha : EV X n c Γ a (.int i)) (hb : EV X n c Γ b (.int j)) (hc : CPow i j) : EV X n c Γ (.BinOp a .Pow b pos) (.int (i ^ j.toNat)) := ev_i2 dop_pow ha hb hc
/-- one thing read -/
def DUn (X : Cx) (n : Nm) (c : Cc) (f : Value → Sem Value) (P : D → (D → Prop) → Prop) : Prop := NOk X n c → ∃ r, UnR X f r ∧
  ∀ Γ σ R H x v Post, SOk X.K c Γ σ R H → Wk X.K R H x v → P x Post → ∀ Q : VK,
    (∀ u R' H' z, SOk X.K c Γ σ R' H' → Ex R R' → Rp X.K R' z u → Post z → Q u H') → r v H Q
theorem we_un {op : UnaryOp} {f : Value → Sem Value} {P : D → (D → Prop) → Prop} {Post : D → SL → Prop} (ho : DUn X n c (unaryOp op) P) (h : WK X n c Γ a fun k Γ1 => ∃ x, k.get Γ1 = some x ∧ P x fun z => Post z Γ1) : WE X n c Γ (.UnaryOp op a pos) Post := .mk fun hn σ R H s Q q => by
  obtain ⟨r, h1, h2⟩ := ho hn
  refine (pe_un h1 pW).w (h.run hn σ R H s _ fun v R1 H1 k Γ1 s1 e1 r1 ⟨x, g1, p1⟩ => ?_)
  exact h2 Γ1 σ R1 H1 x v _ s1 (r1.wk s1 g1) p1 Q fun u R' H' z s' e' r' p' => q u R' H' z Γ1 s' (e1.trans e') r' p'
theorem ev_neg (ha : EV X n c Γ a (.int i)) : EV X n c Γ (.UnaryOp .USub a pos) (.int (-i)) :=
  we_un (f := unaryOp .USub) (P := fun x Post => ∃ i, x = .int i ∧ Post (.int (-i))) (fun _ => ⟨_, un_neg, fun Γ σ R H x v Post s hx ⟨i, e, p⟩ Q q => by subst e; exact ⟨i, hx.int, q (.int (-i)) R H (.int (-i)) s (Ex.refl _) rfl p⟩⟩)
    (wk_ek (ek_d ha) ⟨_, rfl, i, rfl, rfl, rfl⟩)

/-! ### comparisons -/
theorem we_cmp {op : CmpOp} {Post : D → SL → Prop} (ho : DOp X n c (compareOp op) P) (hm : behindInMarks op b = false) (h : WK X n c Γ a fun k Γ1 => WK X n c Γ1 b fun l Γ2 => ∃ x y, k.get Γ2 = some x ∧ l.get Γ2 = some y ∧ P x y fun z => Post z Γ2) : WE X n c Γ (.Compare a [op] [b] pos) Post := .mk fun hn σ R H s Q q => by
  obtain ⟨r, h1, h2⟩ := ho hn
  refine (pe_cmpR h1 pW pW hm).w (h.run hn σ R H s _ fun v R1 H1 k Γ1 s1 e1 r1 p1 => p1.run hn σ R1 H1 s1 _ fun w R2 H2 l Γ2 s2 e2 r2 ⟨x, y, g1, g2, p2⟩ => ?_)
  exact h2 Γ2 σ R2 H2 x y v w _ s2 ((r1.mono e2).wk s2 g1) (r2.wk s2 g2) p2 Q fun u R' H' z s' e' r' p' => q u R' H' z Γ2 s' (e1.trans (e2.trans e')) r' p'
theorem wt_cmp {op : CmpOp} {Post : Bool → SL → Prop} (ho : DOp X n c (compareOp op) P) (hm : behindInMarks op b = false) (h : WK X n c Γ a fun k Γ1 => WK X n c Γ1 b fun l Γ2 => ∃ x y, k.get Γ2 = some x ∧ l.get Γ2 = some y ∧ P x y fun z => ∃ b, z = .bl b ∧ Post b Γ2) : WT X n c Γ (.Compare a [op] [b] pos) Post := .mk fun hn σ R H s Q q => by
  obtain ⟨r, h1, h2⟩ := ho hn
  refine (pt_cmpR h1 pW pW hm).w (h.run hn σ R H s _ fun v R1 H1 k Γ1 s1 e1 r1 p1 => p1.run hn σ R1 H1 s1 _ fun w R2 H2 l Γ2 s2 e2 r2 ⟨x, y, g1, g2, p2⟩ => ?_)
  exact h2 Γ2 σ R2 H2 x y v w _ s2 ((r1.mono e2).wk s2 g1) (r2.wk s2 g2) p2 _ fun u R' H' z s' e' r' ⟨bb, e0, p'⟩ => by
    subst e0
    exact ⟨bb, r', q R' H' bb Γ2 s' (e1.trans (e2.trans e')) p'⟩
theorem ev_cmp {op : CmpOp} (ho : DOp X n c (compareOp op) P) (ha : EK X n c Γ a k) (hb : EK X n c Γ b l) (h : ∀ Post : D → Prop, Post z → P x y Post) (ga : k.get Γ = some x := by rfl) (gb : l.get Γ = some y := by rfl) (hm : behindInMarks op b = false := by first | exact nomark _ | rfl) : EV X n c Γ (.Compare a [op] [b] pos) z :=
  we_cmp ho hm (wk_ek ha (wk_ek hb ⟨x, y, ga, gb, h _ ⟨rfl, rfl⟩⟩))
theorem et_cmp {op : CmpOp} {bb : Bool} (ho : DOp X n c (compareOp op) P) (ha : EK X n c Γ a k) (hb : EK X n c Γ b l) (h : ∀ Post : D → Prop, Post (.bl bb) → P x y Post) (ga : k.get Γ = some x := by rfl) (gb : l.get Γ = some y := by rfl) (hm : behindInMarks op b = false := by first | exact nomark _ | rfl) : ET X n c Γ (.Compare a [op] [b] pos) bb :=
  wt_cmp ho hm (wk_ek ha (wk_ek hb ⟨x, y, ga, gb, h _ ⟨bb, rfl, rfl, rfl⟩⟩))
theorem et_i2 {op : CmpOp} {g : Int → Int → Bool} (ho : DOp X n c (compareOp op) (PI2 (fun _ _ => True) fun i j => .bl (g i j))) (ha : EV X n c Γ a (.int i)) (hb : EV X n c Γ b (.int j)) (hm : behindInMarks op b = false) : ET X n c Γ (.Compare a [op] [b] pos) (g i j) :=
  et_cmp ho (ek_d ha) (ek_d hb) (fun _ p => ⟨i, j, rfl, rfl, trivial, p⟩) rfl rfl hm
theorem ev_ci2 {op : CmpOp} {g : Int → Int → Bool} (ho : DOp X n c (compareOp op) (PI2 (fun _ _ => True) fun i j => .bl (g i j))) (ha : EV X n c Γ a (.int i)) (hb : EV X n c Γ b (.int j)) (hm : behindInMarks op b = false) : EV X n c Γ (.Compare a [op] [b] pos) (.bl (g i j)) :=
  ev_cmp ho (ek_d ha) (ek_d hb) (fun _ p => ⟨i, j, rfl, rfl, trivial, p⟩) rfl rfl hm
theorem et_lt (ha : EV X n c Γ a (.int i)) (hb : EV X n c Γ b (.int j)) : ET X n c Γ (.Compare a [.Lt] [b] pos) (decide (i < j)) := et_i2 dop_lt ha hb (nomark _)
theorem et_le (ha : EV X n c Γ a (.int i)) (hb : EV X n c Γ b (.int j)) : ET X n c Γ (.Compare a [.LtE] [b] pos) (decide (i ≤ j)) := et_i2 dop_le ha hb (nomark _)
theorem et_gt (ha : EV X n c Γ a (.int i)) (hb : EV X n c Γ b (.int j)) : ET X n c Γ (.Compare a [.Gt] [b] pos) (decide (j < i)) := et_i2 dop_gt ha hb (nomark _)
theorem et_ge (ha : EV X n c Γ a (.int i)) (hb : EV X n c Γ b (.int j)) : ET X n c Γ (.Compare a [.GtE] [b] pos) (decide (j ≤ i)) := et_i2 dop_ge ha hb (nomark _)
theorem ev_lt (ha : EV X n c Γ a (.int i)) (hb : EV X n c Γ b (.int j)) : EV X n c Γ (.Compare a [.Lt] [b] pos) (.bl (decide (i < j))) := ev_ci2 dop_lt ha hb (nomark _)
theorem ev_le (ha : EV X n c Γ a (.int i)) (hb : EV X n c Γ b (.int j)) : EV X n c Γ (.Compare a [.LtE] [b] pos) (.bl (decide (i ≤ j))) := ev_ci2 dop_le ha hb (nomark _)
theorem ev_gt (ha : EV X n c Γ a (.int i)) (hb : EV X n c Γ b (.int j)) : EV X n c Γ (.Compare a [.Gt] [b] pos) (.bl (decide (j < i))) := ev_ci2 dop_gt ha hb (nomark _)
theorem ev_ge (ha : EV X n c Γ a (.int i)) (hb : EV X n c Γ b (.int j)) : EV X n c Γ (.Compare a [.GtE] [b] pos) (.bl (decide (j ≤ i))) := ev_ci2 dop_ge ha hb (nomark _)
end
end DL

end
section
set_option Elab.async false
set_option linter.all false
set_option autoImplicit true
set_option maxRecDepth 100000
set_option maxHeartbeats 400000
namespace DL
open PySem L2
open PyProof.Rows hiding St

/-! ### data as the library's equality takes it -/
mutual
def D.pd : D → PyData
  | .non => .none
  | .bl b => .bool b
  | .int i => .int i
  | .str x => .str x
  | .lst ds => .list (pdL ds)
  | .tup ds => .tuple (pdL ds)
  | .dic _ => .dict []
def pdL : List D → List PyData
  | [] => []
  | d :: ds => d.pd :: pdL ds
end
mutual
theorem Rp.dp {K : PySem.W.Frag} {R : Hp} : ∀ (d : D) (v : V), d.pd.canLay0 = true → Rp K R d v → Dp K R v d.pd
  | .non, _, _, h => by cases (show _ = _ from h); exact .non
  | .bl _, _, _, h => by cases (show _ = _ from h); exact .bl _
  | .int _, _, _, h => by cases (show _ = _ from h); exact .int _
  | .str _, _, _, h => by cases (show _ = _ from h); exact .str _
  | .lst ds, _, z, ⟨a, vs, h1, h2, h3⟩ => by subst h1; exact .lst (.inl (.inl h2)) (RpL.dp ds vs (by simpa [D.pd, PyData.canLay0] using z) h3)
  | .tup ds, _, z, ⟨a, vs, h1, h2, h3⟩ => by subst h1; exact .tup h2 (RpL.dp ds vs (by simpa [D.pd, PyData.canLay0] using z) h3)
  | .dic _, _, z, _ => by simp [D.pd, PyData.canLay0] at z
theorem RpL.dp {K : PySem.W.Frag} {R : Hp} : ∀ (ds : List D) (vs : List V), PyData.canLayAll0 (pdL ds) = true → RpL K R ds vs → DpAll K R vs (pdL ds)
  | [], _, _, h => by cases (show _ = _ from h); exact .nil
  | d :: ds, _, z, ⟨v, ws, h1, h2, h3⟩ => by
    subst h1
    have z' : d.pd.canLay0 = true ∧ PyData.canLayAll0 (pdL ds) = true := by simpa [pdL, PyData.canLayAll0] using z
    exact .cons (Rp.dp d v z'.1 h2) (RpL.dp ds ws z'.2 h3)
end
mutual
theorem dp_mono {K : PySem.W.Frag} {R H : Hp} (e : Ex R H) : ∀ {d : PyData} {v : V}, Dp K R v d → Dp K H v d
  | _, _, .non => .non
  | _, _, .bl _ => .bl _
  | _, _, .int _ => .int _
  | _, _, .str _ => .str _
  | _, _, .lst h t => .lst (ex_l e h) (dpAll_mono e t)
  | _, _, .tup h t => .tup (ex_t e h) (dpAll_mono e t)
theorem dpAll_mono {K : PySem.W.Frag} {R H : Hp} (e : Ex R H) : ∀ {d : List PyData} {v : List V}, DpAll K R v d → DpAll K H v d
  | _, _, .nil => .nil
  | _, _, .cons h t => .cons (dp_mono e h) (dpAll_mono e t)
end
theorem Wk.dp {K : PySem.W.Frag} {R H : Hp} {x : D} {v : V} (e : Ex R H) (z : x.pd.canLay0 = true) : Wk K R H x v → Dp K H v x.pd
  | .inl h => dp_mono e (Rp.dp x v z h)
  | .inr (.inl ⟨a, vs, ds, h1, h2, h3, h4, h5⟩) => by
    subst h1 h2; exact .lst (.inl (.inl h4)) (dpAll_mono e (RpL.dp ds vs (by simpa [D.pd, PyData.canLay0] using z) h5))
  | .inr (.inr ⟨a, vs, ds, h1, h2, h3, h4, h5⟩) => by subst h2; simp [D.pd, PyData.canLay0] at z

section
variable {X : Cx} {n : Nm} {c : Cc} {Γ : SL} {e a b : Expr} {x y z : D} {pos : Pos} {k l : AK} {i j : Int}
def D.eqv (x y : D) : Bool := PyData.eqv x.pd y.pd
def D.shp (x : D) : Bool := SeqAt.shaped x.pd
theorem canLay_shp {x : D} (h : x.shp = true) : x.pd.canLay0 = true := SeqAt.canLay_of_shaped h
def PEq (g : Bool → Bool) : D → D → (D → Prop) → Prop := fun x y Post => x.shp = true ∧ y.shp = true ∧ Post (.bl (g (x.eqv y)))
theorem dop_eq : DOp X n c (compareOp .Eq) (PEq id) := fun hn => ⟨_, op_eqD hn.room.units, fun Γ σ R H x y v w Post s hx hy ⟨h1, h2, p⟩ Q q =>
  ⟨x.pd, y.pd, hx.dp s.rh (canLay_shp h1), hy.dp s.rh (canLay_shp h2), h1, h2, q (.bl (x.eqv y)) R H (.bl (x.eqv y)) s (Ex.refl _) rfl p⟩⟩
theorem dop_ne : DOp X n c (compareOp .NotEq) (PEq not) := fun hn => ⟨_, op_neD hn.room.units, fun Γ σ R H x y v w Post s hx hy ⟨h1, h2, p⟩ Q q =>
  ⟨x.pd, y.pd, hx.dp s.rh (canLay_shp h1), hy.dp s.rh (canLay_shp h2), h1, h2, q (.bl (!(x.eqv y))) R H (.bl (!(x.eqv y))) s (Ex.refl _) rfl p⟩⟩
theorem et_eqD (ha : EK X n c Γ a k) (hb : EK X n c Γ b l) (h1 : x.shp = true) (h2 : y.shp = true) (ga : k.get Γ = some x := by rfl) (gb : l.get Γ = some y := by rfl) : ET X n c Γ (.Compare a [.Eq] [b] pos) (x.eqv y) :=
  et_cmp dop_eq ha hb (fun _ p => ⟨h1, h2, p⟩) ga gb (nomark _)
theorem et_neD (ha : EK X n c Γ a k) (hb : EK X n c Γ b l) (h1 : x.shp = true) (h2 : y.shp = true) (ga : k.get Γ = some x := by rfl) (gb : l.get Γ = some y := by rfl) : ET X n c Γ (.Compare a [.NotEq] [b] pos) (!(x.eqv y)) :=
  et_cmp dop_ne ha hb (fun _ p => ⟨h1, h2, p⟩) ga gb (nomark _)
theorem ev_eqD (ha : EK X n c Γ a k) (hb : EK X n c Γ b l) (h1 : x.shp = true) (h2 : y.shp = true) (ga : k.get Γ = some x := by rfl) (gb : l.get Γ = some y := by rfl) : EV X n c Γ (.Compare a [.Eq] [b] pos) (.bl (x.eqv y)) :=
  ev_cmp dop_eq ha hb (fun _ p => ⟨h1, h2, p⟩) ga gb (nomark _)
theorem ev_neD (ha : EK X n c Γ a k) (hb : EK X n c Γ b l) (h1 : x.shp = true) (h2 : y.shp = true) (ga : k.get Γ = some x := by rfl) (gb : l.get Γ = some y := by rfl) : EV X n c Γ (.Compare a [.NotEq] [b] pos) (.bl (!(x.eqv y))) :=
  ev_cmp dop_ne ha hb (fun _ p => ⟨h1, h2, p⟩) ga gb (nomark _)
theorem dop_eqI : DOp X n c (compareOp .Eq) (PI2 (fun _ _ => True) fun i j => .bl (decide (i = j))) := fun _ => ⟨_, op_eq, fun Γ σ R H x y v w Post s hx hy ⟨i, j, e1, e2, _, p⟩ Q q => by
  subst e1 e2
  cases hx.int; cases hy.int
  exact ⟨rfl, q _ R H _ s (Ex.refl _) (by simp [Rp]) p⟩⟩
theorem dop_neI : DOp X n c (compareOp .NotEq) (PI2 (fun _ _ => True) fun i j => .bl (!decide (i = j))) := fun _ => ⟨_, op_ne, fun Γ σ R H x y v w Post s hx hy ⟨i, j, e1, e2, _, p⟩ Q q => by
  subst e1 e2
  cases hx.int; cases hy.int
  exact ⟨rfl, q _ R H _ s (Ex.refl _) (by simp [Rp]) p⟩⟩
theorem et_eq (ha : EV X n c Γ a (.int i)) (hb : EV X n c Γ b (.int j)) : ET X n c Γ (.Compare a [.Eq] [b] pos) (decide (i = j)) := et_i2 dop_eqI ha hb (nomark _)
theorem et_ne (ha : EV X n c Γ a (.int i)) (hb : EV X n c Γ b (.int j)) : ET X n c Γ (.Compare a [.NotEq] [b] pos) (!decide (i = j)) := et_i2 dop_neI ha hb (nomark _)
theorem ev_eq (ha : EV X n c Γ a (.int i)) (hb : EV X n c Γ b (.int j)) : EV X n c Γ (.Compare a [.Eq] [b] pos) (.bl (decide (i = j))) := ev_ci2 dop_eqI ha hb (nomark _)
theorem ev_ne (ha : EV X n c Γ a (.int i)) (hb : EV X n c Γ b (.int j)) : EV X n c Γ (.Compare a [.NotEq] [b] pos) (.bl (!decide (i = j))) := ev_ci2 dop_neI ha hb (nomark _)
/-! ### is None -/
def D.isN : D → Bool
  | .non => true
  | _ => false
theorem Wk.isN {K : PySem.W.Frag} {R H : Hp} {x : D} {v : V} (h : Wk K R H x v) : decide (v = V.non) = x.isN := by
  rcases h with h | ⟨a, vs, ds, h1, h2, _⟩ | ⟨a, vs, ds, h1, h2, _⟩
  · cases x with
    | non => cases (show _ = _ from h); rfl
    | bl _ => cases (show _ = _ from h); rfl
    | int _ => cases (show _ = _ from h); rfl
    | str _ => cases (show _ = _ from h); rfl
    | lst _ => obtain ⟨a, vs, h1, _⟩ := h; subst h1; rfl
    | tup _ => obtain ⟨a, vs, h1, _⟩ := h; subst h1; rfl
    | dic _ => obtain ⟨a, vs, h1, _⟩ := h; subst h1; rfl
  · subst h1 h2; rfl
  · subst h1 h2; rfl
theorem dop_isN : DOp X n c (compareOp .Is) (fun x y Post => y = .non ∧ Post (.bl x.isN)) := fun _ => ⟨_, op_isN, fun Γ σ R H x y v w Post s hx hy ⟨e, p⟩ Q q => by
  subst e
  exact ⟨hy.non, q _ R H _ s (Ex.refl _) (by show _ = _; rw [hx.isN]) p⟩⟩
theorem dop_notN : DOp X n c (compareOp .IsNot) (fun x y Post => y = .non ∧ Post (.bl (!x.isN))) := fun _ => ⟨_, op_notN, fun Γ σ R H x y v w Post s hx hy ⟨e, p⟩ Q q => by
  subst e
  exact ⟨hy.non, q _ R H _ s (Ex.refl _) (by show _ = _; rw [hx.isN]) p⟩⟩
theorem et_isN {p q} (ha : EK X n c Γ a k) (ga : k.get Γ = some x := by rfl) : ET X n c Γ (.Compare a [.Is] [.Constant .none p q] pos) x.isN := et_cmp dop_isN ha (ek_d ev_non) (fun _ p => ⟨rfl, p⟩) ga rfl (nomark _)
theorem et_notN {p q} (ha : EK X n c Γ a k) (ga : k.get Γ = some x := by rfl) : ET X n c Γ (.Compare a [.IsNot] [.Constant .none p q] pos) (!x.isN) := et_cmp dop_notN ha (ek_d ev_non) (fun _ p => ⟨rfl, p⟩) ga rfl (nomark _)
theorem ev_isN {p q} (ha : EK X n c Γ a k) (ga : k.get Γ = some x := by rfl) : EV X n c Γ (.Compare a [.Is] [.Constant .none p q] pos) (.bl x.isN) := ev_cmp dop_isN ha (ek_d ev_non) (fun _ p => ⟨rfl, p⟩) ga rfl (nomark _)
theorem ev_notN {p q} (ha : EK X n c Γ a k) (ga : k.get Γ = some x := by rfl) : EV X n c Γ (.Compare a [.IsNot] [.Constant .none p q] pos) (.bl (!x.isN)) := ev_cmp dop_notN ha (ek_d ev_non) (fun _ p => ⟨rfl, p⟩) ga rfl (nomark _)

/-! ### and, or, not, if -/
variable {rest : List Expr} {p q : Bool}
theorem wt_val {Post : Bool → SL → Prop} (h : WE X n c Γ e fun x Γ' => ∃ b, x = .bl b ∧ Post b Γ') (he : ∀ whole, isTrue e X.env whole = (do let v ← whole; standAt e.pos; holding [v] (truthy v)) := by intro _; rfl) : WT X n c Γ e Post := .mk fun hn σ R H s Q q =>
  (pt_val pW he).w (h.run hn σ R H s _ fun v R' H' x Γ' s' e r ⟨b, e1, p⟩ => by subst e1; exact ⟨b, r, q R' H' b Γ' s' e p⟩)
theorem et_val (h : EV X n c Γ e (.bl p)) (he : ∀ whole, isTrue e X.env whole = (do let v ← whole; standAt e.pos; holding [v] (truthy v)) := by intro _; rfl) : ET X n c Γ e p := wt_val (we_of h ⟨p, rfl, rfl, rfl⟩) he
theorem WW.t {Post : Bool → SL → Prop} (h : WW X n c Γ e Post) : WT X n c Γ e Post := .mk fun hn σ R H s Q q => (PW.pt pWW).w (h.run hn σ R H s Q q)
theorem EW.t (h : EW X n c Γ e p) : ET X n c Γ e p := WW.t h
theorem ww_and1 {Post : Bool → SL → Prop} (h : WT X n c Γ a Post) : WW X n c Γ (.BoolOp .And [a] pos) Post := .mk fun hn σ R H s Q q => (pw_and1 pWT).w (h.run hn σ R H s Q q)
theorem ww_or1 {Post : Bool → SL → Prop} (h : WT X n c Γ a Post) : WW X n c Γ (.BoolOp .Or [a] pos) Post := .mk fun hn σ R H s Q q => (pw_or1 pWT).w (h.run hn σ R H s Q q)
theorem ww_and {Post : Bool → SL → Prop} (h : WT X n c Γ a fun p Γ1 => (p = true → WW X n c Γ1 (.BoolOp .And (b :: rest) pos) Post) ∧ (p = false → Post false Γ1)) : WW X n c Γ (.BoolOp .And (a :: b :: rest) pos) Post := .mk fun hn σ R H s Q q =>
  (pw_and pWT pWW).w (h.run hn σ R H s _ fun R1 H1 p Γ1 s1 e1 ⟨p1, p2⟩ => by
    cases p with
    | true => exact (p1 rfl).run hn σ R1 H1 s1 Q fun R' H' b Γ' s' e' p' => q R' H' b Γ' s' (e1.trans e') p'
    | false => exact q R1 H1 false Γ1 s1 e1 (p2 rfl))
theorem ww_or {Post : Bool → SL → Prop} (h : WT X n c Γ a fun p Γ1 => (p = false → WW X n c Γ1 (.BoolOp .Or (b :: rest) pos) Post) ∧ (p = true → Post true Γ1)) : WW X n c Γ (.BoolOp .Or (a :: b :: rest) pos) Post := .mk fun hn σ R H s Q q =>
  (pw_or pWT pWW).w (h.run hn σ R H s _ fun R1 H1 p Γ1 s1 e1 ⟨p1, p2⟩ => by
    cases p with
    | false => exact (p1 rfl).run hn σ R1 H1 s1 Q fun R' H' b Γ' s' e' p' => q R' H' b Γ' s' (e1.trans e') p'
    | true => exact q R1 H1 true Γ1 s1 e1 (p2 rfl))
theorem ew_and1 (h : ET X n c Γ a p) : EW X n c Γ (.BoolOp .And [a] pos) p := ww_and1 h
theorem ew_or1 (h : ET X n c Γ a p) : EW X n c Γ (.BoolOp .Or [a] pos) p := ww_or1 h
theorem ew_and (h : ET X n c Γ a p) (h2 : p = true → EW X n c Γ (.BoolOp .And (b :: rest) pos) q) : EW X n c Γ (.BoolOp .And (a :: b :: rest) pos) (p && q) :=
  ww_and (wt_of h ⟨fun e => (h2 e).mono fun x Γ' ⟨g1, g2⟩ => by subst g1 e; exact ⟨rfl, g2⟩, fun e => by subst e; exact ⟨rfl, rfl⟩⟩)
theorem ew_or (h : ET X n c Γ a p) (h2 : p = false → EW X n c Γ (.BoolOp .Or (b :: rest) pos) q) : EW X n c Γ (.BoolOp .Or (a :: b :: rest) pos) (p || q) :=
  ww_or (wt_of h ⟨fun e => (h2 e).mono fun x Γ' ⟨g1, g2⟩ => by subst g1 e; exact ⟨rfl, g2⟩, fun e => by subst e; exact ⟨rfl, rfl⟩⟩)
theorem wt_not {Post : Bool → SL → Prop} (h : WT X n c Γ a fun p Γ' => Post (!p) Γ') : WT X n c Γ (.UnaryOp .Not a pos) Post := .mk fun hn σ R H s Q q =>
  (pt_not pWT).w (h.run hn σ R H s _ fun R' H' b Γ' s' e' p' => q R' H' (!b) Γ' s' e' p')
theorem et_not (h : ET X n c Γ a p) : ET X n c Γ (.UnaryOp .Not a pos) (!p) := wt_not (wt_of h ⟨rfl, rfl⟩)
/-- as values -/
theorem we_and1 {op} {Post : D → SL → Prop} (h : WE X n c Γ a Post) : WE X n c Γ (.BoolOp op [a] pos) Post := .mk fun hn σ R H s Q q => (pe_one pW).w (h.run hn σ R H s Q q)
theorem we_and {Post : D → SL → Prop} (h : WE X n c Γ a fun x Γ1 => ∃ p, x = .bl p ∧ (p = true → WE X n c Γ1 (.BoolOp .And (b :: rest) pos) Post) ∧ (p = false → Post (.bl false) Γ1)) : WE X n c Γ (.BoolOp .And (a :: b :: rest) pos) Post := .mk fun hn σ R H s Q q =>
  (pe_and pW pW).w (h.run hn σ R H s _ fun v R1 H1 x Γ1 s1 e1 r ⟨p, e2, p1, p2⟩ => by
    subst e2
    refine ⟨p, r, ?_⟩
    cases p with
    | true => exact (p1 rfl).run hn σ R1 H1 s1 Q fun v R' H' b Γ' s' e' p' => q v R' H' b Γ' s' (e1.trans e') p'
    | false => exact q (.bl false) R1 H1 (.bl false) Γ1 s1 e1 rfl (p2 rfl))
theorem we_or {Post : D → SL → Prop} (h : WE X n c Γ a fun x Γ1 => ∃ p, x = .bl p ∧ (p = false → WE X n c Γ1 (.BoolOp .Or (b :: rest) pos) Post) ∧ (p = true → Post (.bl true) Γ1)) : WE X n c Γ (.BoolOp .Or (a :: b :: rest) pos) Post := .mk fun hn σ R H s Q q =>
  (pe_or pW pW).w (h.run hn σ R H s _ fun v R1 H1 x Γ1 s1 e1 r ⟨p, e2, p1, p2⟩ => by
    subst e2
    refine ⟨p, r, ?_⟩
    cases p with
    | false => exact (p1 rfl).run hn σ R1 H1 s1 Q fun v R' H' b Γ' s' e' p' => q v R' H' b Γ' s' (e1.trans e') p'
    | true => exact q (.bl true) R1 H1 (.bl true) Γ1 s1 e1 rfl (p2 rfl))
theorem ev_one {op} (h : EV X n c Γ a x) : EV X n c Γ (.BoolOp op [a] pos) x := we_and1 h
theorem ev_and (h : EV X n c Γ a (.bl p)) (h2 : p = true → EV X n c Γ (.BoolOp .And (b :: rest) pos) (.bl q)) : EV X n c Γ (.BoolOp .And (a :: b :: rest) pos) (.bl (p && q)) :=
  we_and (we_of h ⟨p, rfl, fun e => (h2 e).mono fun x Γ' ⟨g1, g2⟩ => by subst g1 e; exact ⟨rfl, g2⟩, fun e => by subst e; exact ⟨rfl, rfl⟩⟩)
theorem ev_or (h : EV X n c Γ a (.bl p)) (h2 : p = false → EV X n c Γ (.BoolOp .Or (b :: rest) pos) (.bl q)) : EV X n c Γ (.BoolOp .Or (a :: b :: rest) pos) (.bl (p || q)) :=
  we_or (we_of h ⟨p, rfl, fun e => (h2 e).mono fun x Γ' ⟨g1, g2⟩ => by subst g1 e; exact ⟨rfl, g2⟩, fun e => by subst e; exact ⟨rfl, rfl⟩⟩)
theorem ev_not (h : EV X n c Γ a (.bl p)) : EV X n c Γ (.UnaryOp .Not a pos) (.bl (!p)) := .mk fun hn σ R H s Q q =>
  (pe_not pW).w (h.run hn σ R H s _ fun v R' H' x Γ' s' e' r ⟨e1, e2⟩ => by subst e1 e2; exact ⟨p, r, q (.bl (!p)) R' H' (.bl (!p)) _ s' e' rfl ⟨rfl, rfl⟩⟩)
theorem we_if {t : Expr} {Post : D → SL → Prop} (h : WT X n c Γ t fun p Γ1 => (p = true → WE X n c Γ1 a Post) ∧ (p = false → WE X n c Γ1 b Post)) : WE X n c Γ (.IfExp t a b pos) Post := .mk fun hn σ R H s Q q =>
  (pe_ifExp pWT pW pW).w (h.run hn σ R H s _ fun R1 H1 p Γ1 s1 e1 ⟨p1, p2⟩ => by
    cases p with
    | true => exact (p1 rfl).run hn σ R1 H1 s1 Q fun v R' H' b Γ' s' e' p' => q v R' H' b Γ' s' (e1.trans e') p'
    | false => exact (p2 rfl).run hn σ R1 H1 s1 Q fun v R' H' b Γ' s' e' p' => q v R' H' b Γ' s' (e1.trans e') p')
theorem ev_if {t : Expr} (h : ET X n c Γ t p) (h1 : p = true → EV X n c Γ a z) (h2 : p = false → EV X n c Γ b z) : EV X n c Γ (.IfExp t a b pos) z := we_if (wt_of h ⟨h1, h2⟩)
theorem wo_if {t : Expr} {Post : OB → SL → Prop} (h : WT X n c Γ t fun p Γ1 => (p = true → WO X n c Γ1 a Post) ∧ (p = false → WO X n c Γ1 b Post)) : WO X n c Γ (.IfExp t a b pos) Post := .mk fun hn σ R H s Q q =>
  (pe_ifExp pWT pW pW).w (h.run hn σ R H s _ fun R1 H1 p Γ1 s1 e1 ⟨p1, p2⟩ => by
    cases p with
    | true => exact (p1 rfl).run hn σ R1 H1 s1 Q fun v R' H' b Γ' s' e' p' => q v R' H' b Γ' s' (e1.trans e') p'
    | false => exact (p2 rfl).run hn σ R1 H1 s1 Q fun v R' H' b Γ' s' e' p' => q v R' H' b Γ' s' (e1.trans e') p')
end
end DL

end
section
set_option Elab.async false
set_option linter.all false
set_option autoImplicit true
set_option maxRecDepth 100000
set_option maxHeartbeats 400000
namespace DL
open PySem L2
open PyProof.Rows hiding St

/-! ### parameters, promises -/
inductive Par where
  | d (x : D) | w (x : D) | own (o : OB) | sc (ns : List Int)
abbrev Sg := List Par → (Res → List OB → Prop) → Prop
def ParOk (K : PySem.W.Frag) (M : Addr → Prop) (R H : Hp) : Par → V → Prop
  | .d x, v => Rp K R x v
  | .w x, v => WOk K M R H x v
  | .own o, v => ∃ a, v = .ref a ∧ OBOk K R H a o ∧ R a = none
  | .sc ns, v => ∃ a, v = .ref a ∧ SqL K R a (ns.map V.int)
def ParsOk (K : PySem.W.Frag) (M : Addr → Prop) (R H : Hp) : List Par → List V → Prop
  | [], vs => vs = []
  | p :: ps, vs => ∃ v ws, vs = v :: ws ∧ ParOk K M R H p v ∧ ParsOk K M R H ps ws
def adr : V → Addr
  | .ref a => a
  | _ => 0
/-- the places of what is lent -/
def ownAd : List Par → List V → List Addr
  | .own _ :: ps, v :: vs => adr v :: ownAd ps vs
  | _ :: ps, _ :: vs => ownAd ps vs
  | _, _ => []
def OwnsOk (K : PySem.W.Frag) (R H : Hp) : List Addr → List OB → Prop
  | [], os => os = []
  | a :: as, os => ∃ o os', os = o :: os' ∧ OBOk K R H a o ∧ OwnsOk K R H as os'
def RetOk (K : PySem.W.Frag) (H0 R H : Hp) : Res → V → Prop
  | .d x, v => Rp K R x v
  | .own o, v => ∃ a, v = .ref a ∧ OBOk K R H a o ∧ R a = none ∧ H0 a = none
/-- behind a call -/
structure After (K : PySem.W.Frag) (as : List Addr) (R H R' H' : Hp) : Prop where
  r : Ex R R'
  rh : Ex R' H'
  h : ∀ a o, a ∉ as → H a = some o → H' a = some o
  pr : ∀ a, H a ≠ none → H' a ≠ none
  un : ∀ a, H a ≠ none → R a = none → R' a = none
def spOf (K : PySem.W.Frag) (S : Sg) : Sp := fun vs H Q _ => ∃ (R : Hp) (ps : List Par) (Post : Res → List OB → Prop), Ex R H ∧ ParsOk K (fun a => a ∈ ownAd ps vs) R H ps vs ∧ (ownAd ps vs).Nodup ∧ S ps Post ∧
  ∀ v R' H' r os, After K (ownAd ps vs) R H R' H' → RetOk K H R' H' r v → OwnsOk K R' H' (ownAd ps vs) os → Post r os → Q v H'

/-- a def that is known by its promise -/
structure CalF (X : Cx) (k : Nat) (nm : Str) (S : Sg) : Prop where
  ex : ∃ f fd ps k0, FnOk X.prog X.w X.K X.mg X.base CX0 k0 f fd ps (spOf X.K S) ∧ k0 ≤ k ∧ X.mg nm = some (.ref f) ∧ PySem.W.keepIn X.K (.ref f) = true ∧ Binds X.K fd ps []
theorem CalF.mono {X : Cx} {j k : Nat} {nm : Str} {S : Sg} (h : CalF X j nm S) (e : j ≤ k) : CalF X k nm S :=
  let ⟨f, fd, ps, k0, a, b, c⟩ := h.ex; ⟨f, fd, ps, k0, a, Nat.le_trans b e, c⟩

def AK.par (Γ : SL) : AK → Option Par
  | .d x => some (.d x)
  | .v x => some (.w x)
  | .s i => match Γ[i]? with
    | some (.sc ns) => some (.sc ns)
    | some sl => sl.data.map Par.w
    | none => none
  | .o i => match Γ[i]? with
    | some (.own ob) => some (.own ob)
    | _ => none
def pars (Γ : SL) : List AK → Option (List Par)
  | [] => some []
  | k :: ks => match k.par Γ, pars Γ ks with
    | some x, some xs => some (x :: xs)
    | _, _ => none
def ownIx : List AK → List Nat
  | [] => []
  | .o i :: ks => i :: ownIx ks
  | _ :: ks => ownIx ks
def readIx : List AK → List Nat
  | [] => []
  | .s i :: ks => i :: readIx ks
  | _ :: ks => readIx ks
def updOwn (Γ : SL) : List Nat → List OB → SL
  | i :: is, o :: os => updOwn (Γ.set i (.own o)) is os
  | _, _ => Γ

section
variable {K : PySem.W.Frag} {c : Cc} {Γ : SL} {σ : St} {R H R' H' : Hp}
theorem own_ad : ∀ {ks : List AK} {vs : List V} {ps : List Par}, SOk K c Γ σ R H → AksOk K R σ ks vs → pars Γ ks = some ps →
    ownAd ps vs = (ownIx ks).map (fun i => adr ((σ[i]?.bind id).getD .non)) ∧ ∀ i ∈ ownIx ks, ∃ a o, σ[i]? = some (some (.ref a)) ∧ Γ[i]? = some (.own o) ∧ OBOk K R H a o ∧ R a = none ∧ (c.H0 a = none ∨ c.M a)
  | [], vs, ps, s, h, e => by cases e; exact ⟨rfl, fun i hi => by simp [ownIx] at hi⟩
  | k :: ks, vs, ps, s, ⟨v, ws, h1, h2, h3⟩, e => by
    subst h1
    unfold pars at e
    split at e
    · rename_i p ps' e1 e2
      cases e
      obtain ⟨ih1, ih2⟩ := own_ad s h3 e2
      cases k with
      | d x => cases e1; exact ⟨ih1, ih2⟩
      | v x => cases e1; exact ⟨ih1, ih2⟩
      | s i =>
        have hp : ∀ o, p ≠ .own o := fun o z => by
          subst z
          simp only [AK.par] at e1
          split at e1
          · cases e1
          · obtain ⟨_, _, z⟩ := Option.map_eq_some_iff.mp e1; cases z
          · cases e1
        refine ⟨?_, ih2⟩
        cases p with
        | own o => exact absurd rfl (hp o)
        | _ => exact ih1
      | o i =>
        simp only [AK.par] at e1
        split at e1
        · rename_i o ho
          cases e1
          obtain ⟨q, q1, a, q2, q3, q4, q5⟩ := s.sl i _ ho
          have z : σ[i]? = some (some v) := h2
          rw [z] at q1; cases q1; cases q2
          refine ⟨?_, fun j hj => ?_⟩
          · show adr (.ref a) :: ownAd ps' ws = _
            rw [ih1]; simp [ownIx, z]
          · rcases List.mem_cons.mp hj with rfl | hj
            · exact ⟨a, o, z, ho, q3, q4, q5⟩
            · exact ih2 j hj
        · cases e1
    · cases e
theorem own_nd (s : SOk K c Γ σ R H) : ∀ {is : List Nat}, is.Nodup → (∀ i ∈ is, ∃ a o, σ[i]? = some (some (.ref a)) ∧ Γ[i]? = some (.own o) ∧ OBOk K R H a o ∧ R a = none ∧ (c.H0 a = none ∨ c.M a)) → (is.map (fun i => adr ((σ[i]?.bind id).getD .non))).Nodup
  | [], _, _ => by simp
  | i :: is, nd, h => by
    obtain ⟨n1, n2⟩ := List.nodup_cons.mp nd
    rw [List.map_cons, List.nodup_cons]
    refine ⟨fun z => ?_, own_nd s n2 fun j hj => h j (List.mem_cons_of_mem _ hj)⟩
    obtain ⟨j, hj, e⟩ := List.mem_map.mp z
    obtain ⟨a, o, q1, q2, _⟩ := h i List.mem_cons_self
    obtain ⟨b, o', r1, r2, _⟩ := h j (List.mem_cons_of_mem _ hj)
    rw [q1, r1] at e
    have e' : b = a := e
    subst e'
    have := s.dj i j b o o' q2 r2 q1 r1
    subst this
    exact n1 hj
theorem pars_ok {M : Addr → Prop} (s : SOk K c Γ σ R H) (hM : ∀ a, M a → c.H0 a = none ∨ c.M a) : ∀ {ks : List AK} {vs : List V} {ps : List Par}, AksOk K R σ ks vs → pars Γ ks = some ps → (∀ i ∈ readIx ks, ∀ a o, Γ[i]? = some (.own o) → σ[i]? = some (some (.ref a)) → ¬ M a) →
    ParsOk K M R H ps vs
  | [], vs, ps, h, e, _ => by cases e; exact h
  | k :: ks, vs, ps, ⟨v, ws, h1, h2, h3⟩, e, hr => by
    unfold pars at e
    split at e
    · rename_i p ps' e1 e2
      cases e
      refine ⟨v, ws, h1, ?_, pars_ok s hM h3 e2 fun i hi => hr i (by cases k <;> simp [readIx, hi])⟩
      cases k with
      | d x => cases e1; exact h2
      | v x => cases e1; exact .inl h2
      | o i =>
        simp only [AK.par] at e1
        split at e1
        · rename_i o ho
          cases e1
          obtain ⟨q, q1, a, q2, q3, q4, q5⟩ := s.sl i _ ho
          have z : σ[i]? = some (some v) := h2
          rw [z] at q1; cases q1; cases q2
          exact ⟨a, rfl, q3, q4⟩
        · cases e1
      | s i =>
        have z : σ[i]? = some (some v) := h2
        simp only [AK.par] at e1
        split at e1
        · rename_i ns ho
          cases e1
          obtain ⟨q, q1, a, q2, q3⟩ := s.sl i _ ho
          rw [z] at q1; cases q1; cases q2
          exact ⟨a, rfl, q3⟩
        · rename_i sl hns ho
          obtain ⟨x, ex, e3⟩ := Option.map_eq_some_iff.mp e1
          subst e3
          obtain ⟨q, q1, q2⟩ := s.sl i _ ho
          rw [z] at q1; cases q1
          show WOk K M R H x v
          cases sl with
          | no => cases ex
          | any => cases ex
          | d y => cases ex; obtain ⟨w, r1, r2⟩ := q2; cases r1; exact .inl r2
          | w y => cases ex; obtain ⟨w, r1, r2⟩ := q2; cases r1; exact r2.noM fun a o _ z h => z (hM a h)
          | sc ns => cases ex
          | own ob =>
            obtain ⟨a, r1, r2, _⟩ := q2
            cases r1
            have na := hr i (by simp [readIx]) a ob ho z
            cases ob with
            | lst ds => cases ex; obtain ⟨us, t1, t2⟩ := r2; exact .inr (.inl ⟨a, us, ds, rfl, rfl, na, t1, t2⟩)
            | dic ds => cases ex; obtain ⟨us, t1, t2⟩ := r2; exact .inr (.inr ⟨a, us, ds, rfl, rfl, na, t1, t2⟩)
            | sto => cases ex
        · cases e1
    · cases e
theorem updOwn_len : ∀ {is : List Nat} {os : List OB} {Γ : SL}, (updOwn Γ is os).length = Γ.length
  | [], _, _ => rfl
  | _ :: _, [], _ => rfl
  | i :: is, o :: os, Γ => by show (updOwn (Γ.set i (.own o)) is os).length = _; rw [updOwn_len, List.length_set]
theorem updOwn_out : ∀ {is : List Nat} {os : List OB} {Γ : SL} {j : Nat}, j ∉ is → (updOwn Γ is os)[j]? = Γ[j]?
  | [], _, _, _, _ => rfl
  | _ :: _, [], _, _, _ => rfl
  | i :: is, o :: os, Γ, j, h => by
    show (updOwn (Γ.set i (.own o)) is os)[j]? = _
    have hj : j ≠ i := fun e => h (by simp [e])
    rw [updOwn_out fun z => h (List.mem_cons_of_mem _ z), List.getElem?_set_ne (Ne.symm hj)]
theorem updOwn_in {R' H' : Hp} : ∀ {is : List Nat} {os : List OB} {Γ : SL}, is.Nodup → (∀ i ∈ is, i < Γ.length) → OwnsOk K R' H' (is.map (fun i => adr ((σ[i]?.bind id).getD .non))) os → ∀ i ∈ is, ∃ o, (updOwn Γ is os)[i]? = some (.own o) ∧ OBOk K R' H' (adr ((σ[i]?.bind id).getD .non)) o
  | [], _, _, _, _, _, i, h => by simp at h
  | j :: is, os, Γ, nd, hl, ⟨o, os', e, h1, h2⟩, i, hi => by
    subst e
    obtain ⟨n1, n2⟩ := List.nodup_cons.mp nd
    show ∃ o', (updOwn (Γ.set j (.own o)) is os')[i]? = _ ∧ _
    rcases List.mem_cons.mp hi with rfl | hi
    · refine ⟨o, ?_, h1⟩
      rw [updOwn_out n1, List.getElem?_set_self (hl i List.mem_cons_self)]
    · exact updOwn_in n2 (fun k hk => by rw [List.length_set]; exact hl k (List.mem_cons_of_mem _ hk)) h2 i hi
/-- behind a call the slots stand, what was lent renewed -/
theorem SOk.after {ks : List AK} {vs : List V} {ps : List Par} {os : List OB} (s : SOk K c Γ σ R H) (h : AksOk K R σ ks vs) (e : pars Γ ks = some ps) (nd : (ownIx ks).Nodup) (A : After K (ownAd ps vs) R H R' H') (ow : OwnsOk K R' H' (ownAd ps vs) os) :
    SOk K c (updOwn Γ (ownIx ks) os) σ R' H' := by
  obtain ⟨e1, e2⟩ := own_ad s h e
  have inO : ∀ a, a ∈ ownAd ps vs → c.H0 a = none ∨ c.M a := fun a ha => by
    rw [e1] at ha
    obtain ⟨i, hi, q⟩ := List.mem_map.mp ha
    obtain ⟨b, o, q1, q2, q3, q4, q5⟩ := e2 i hi
    rw [q1] at q
    have q' : b = a := q
    subst q'; exact q5
  have lt : ∀ i ∈ ownIx ks, i < Γ.length := fun i hi => by
    obtain ⟨b, o, q1, q2, _⟩ := e2 i hi
    exact (List.getElem?_eq_some_iff.mp q2).1
  rw [e1] at ow
  refine ⟨A.rh, s.r0.trans A.r, fun a o n q => A.h a o (fun z => ?_) (s.hm a o n q), fun a n => A.pr a (s.pr a n), fun a n q => A.un a (s.pr a n) (s.un a n q), by rw [updOwn_len]; exact s.len, fun i sl q => ?_, fun i j a o o' q1 q2 q3 q4 => ?_, fun p hp => ?_⟩
  · rcases inO a z with z | z
    · rw [z] at q; cases q
    · exact n z
  · by_cases hi : i ∈ ownIx ks
    · obtain ⟨o, w1, w2⟩ := updOwn_in (σ := σ) nd lt ow i hi
      rw [w1] at q; cases q
      obtain ⟨a, o', q1, q2, q3, q4, q5⟩ := e2 i hi
      rw [q1] at w2
      exact ⟨_, q1, a, rfl, w2, A.un a q3.there q4, q5⟩
    · rw [updOwn_out hi] at q
      obtain ⟨o, w1, w2⟩ := s.sl i sl q
      refine ⟨o, w1, ?_⟩
      cases sl with
      | no => exact w2
      | any => exact w2
      | d x => obtain ⟨v, z1, z2⟩ := w2; exact ⟨v, z1, Rp.mono A.r _ _ z2⟩
      | sc ns => obtain ⟨v, z1, z2⟩ := w2; exact ⟨v, z1, ex_l A.r z2⟩
      | w x => obtain ⟨v, z1, z2⟩ := w2; exact ⟨v, z1, z2.mono A.r fun a o na => A.h a o fun z => na (inO a z)⟩
      | own ob =>
        obtain ⟨a, z1, z2, z3, z4⟩ := w2
        refine ⟨a, z1, z2.mono A.r fun o => A.h a o fun z => ?_, A.un a z2.there z3, z4⟩
        rw [e1] at z
        obtain ⟨j, hj, q'⟩ := List.mem_map.mp z
        obtain ⟨b, o', q1, q2, _⟩ := e2 j hj
        rw [q1] at q'
        have q'' : b = a := q'
        subst q''
        subst z1
        have := s.dj i j b ob o' q q2 w1 q1
        subst this
        exact hi hj
  · have un : ∀ (i : Nat) (o : OB), (updOwn Γ (ownIx ks) os)[i]? = some (.own o) → ∃ o, Γ[i]? = some (.own o) := fun i o q => by
      by_cases hi : i ∈ ownIx ks
      · obtain ⟨a, o', _, q2, _⟩ := e2 i hi; exact ⟨o', q2⟩
      · rw [updOwn_out hi] at q; exact ⟨o, q⟩
    obtain ⟨u, z1⟩ := un i o q1
    obtain ⟨u', z2⟩ := un j o' q2
    exact s.dj i j a u u' z1 z2 q3 q4
  · obtain ⟨w1, o, w2⟩ := s.oi p hp
    refine ⟨w1, ?_⟩
    by_cases hi : p.1 ∈ ownIx ks
    · obtain ⟨o, z1, _⟩ := updOwn_in (σ := σ) nd lt ow p.1 hi; exact ⟨o, z1⟩
    · exact ⟨o, by rw [updOwn_out hi]; exact w2⟩
/-- freezing, any fresh thing -/
theorem SOk.freezeR {o : OB} {x : D} (s : SOk K c Γ σ R H) {v : V} (h : VOk K c Γ σ R H (.own o) v) (e : o.data = some x) : ∃ R', SOk K c Γ σ R' H ∧ Ex R R' ∧ Rp K R' x v := by
  obtain ⟨a, h1, h2, h4, h5, h6⟩ := h
  have main : ∀ u : HO, H a = some u → ∃ R', SOk K c Γ σ R' H ∧ Ex R R' ∧ R' a = some u := fun u hu => by
    have e : Ex R (upd R a u) := Ex.new h4
    refine ⟨upd R a u, ⟨fun b o q => ?_, s.r0.trans e, s.hm, s.pr, fun b n q => ?_, s.len, fun i x q => ?_, s.dj, s.oi⟩, e, upd_same⟩
    · by_cases z : b = a
      · subst z; rw [upd_same] at q; cases q; exact hu
      · rw [upd_ne z] at q; exact s.rh b o q
    · have z : b ≠ a := fun z => n (z ▸ h5)
      rw [upd_ne z]; exact s.un b n q
    · obtain ⟨o, q1, q2⟩ := s.sl i x q
      refine ⟨o, q1, ?_⟩
      cases x with
      | no => exact q2
      | any => exact q2
      | d x => obtain ⟨v, z1, z2⟩ := q2; exact ⟨v, z1, z2.mono e⟩
      | w x => obtain ⟨v, z1, z2⟩ := q2; exact ⟨v, z1, z2.mono e fun _ _ _ h => h⟩
      | own ob =>
        obtain ⟨b, z1, z2, z3, z4⟩ := q2
        have z : b ≠ a := fun z => h6 i ob q (by rw [q1, z1, z])
        exact ⟨b, z1, z2.mono e fun _ h => h, by rw [upd_ne z]; exact z3, z4⟩
      | sc ns => obtain ⟨b, z1, z2⟩ := q2; exact ⟨b, z1, ex_l e z2⟩
  cases o with
  | lst ds =>
    obtain ⟨vs, h2, h3⟩ := h2; cases e
    obtain ⟨R', a1, a2, a3⟩ := main _ h2
    exact ⟨R', a1, a2, a, vs, h1, a3, h3.mono a2⟩
  | dic ds =>
    obtain ⟨vs, h2, h3⟩ := h2; cases e
    obtain ⟨R', a1, a2, a3⟩ := main _ h2
    exact ⟨R', a1, a2, a, vs, h1, a3, h3.mono a2⟩
  | sto => cases e
end

section
variable {X : Cx} {n : Nm} {c : Cc} {Γ : SL} {e a b : Expr} {x y z : D} {pos p : Pos} {nm : Str} {S : Sg} {es : List Expr}
/-- a fresh thing as data -/
theorem we_frz {Post : D → SL → Prop} (h : WO X n c Γ e fun o Γ' => ∃ x, o.data = some x ∧ Post x Γ') : WE X n c Γ e Post := .mk fun hn σ R H s Q q =>
  h.run hn σ R H s Q fun v R' H' o Γ' s' e' r ⟨x, hx, px⟩ => by
    obtain ⟨R2, s2, e2, r2⟩ := s'.freezeR r hx
    exact q v R2 H' x Γ' s2 (e'.trans e2) r2 px
theorem ev_frz {ds : List D} (h : EO X n c Γ e (.lst ds)) : EV X n c Γ e (.lst ds) := we_frz (wo_of h ⟨_, rfl, rfl, rfl⟩)

/-- f(e, ..): what is lent comes back renewed -/
theorem call_core {Post : Res → SL → Prop} (hc : CalF X n.k nm S) (j : Nat) (hj : n.GN[j]? = some nm) (hn : NOk X n c)
    (h : WA X n c Γ (e :: es) fun ks Γ1 => ∃ ps, pars Γ1 ks = some ps ∧ (ownIx ks).Nodup ∧ (∀ i ∈ readIx ks, i ∉ ownIx ks) ∧ S ps fun r os => Post r (updOwn Γ1 (ownIx ks) os))
    (he : starEach (e :: es) X.env = (false, eval e X.env) :: starEach es X.env) (hpl : (backTo pos (starEach es X.env)).any (·.1) = false)
    {σ : St} {R H : Hp} (s : SOk X.K c Γ σ R H) (Q : VK) (q : ∀ v R' H' r Γ', SOk X.K c Γ' σ R' H' → Ex R R' → VOk X.K c Γ' σ R' H' r v → Post r Γ' → Q v H') : tW X (.Call (.Name nm p) (e :: es) [] pos) σ H Q := by
  obtain ⟨f, fd, qs, k0, F, hk, hm, kp, hb⟩ := hc.ex
  obtain ⟨g1, g2, g3⟩ := hn.gl j nm hj
  refine (pe_call F (hn.room.mono hk) g1 hm kp hb .nil pass0 pWA g2 he hpl).w ?_
  refine h.run hn σ R H s _ fun vs R1 H1 ks Γ1 s1 e1 r1 ⟨ps, h1, h2, h3, h4⟩ => ?_
  rw [List.append_nil]
  obtain ⟨o1, o2⟩ := own_ad s1 r1 h1
  have inO : ∀ a, a ∈ ownAd ps vs → c.H0 a = none ∨ c.M a := fun a ha => by
    rw [o1] at ha
    obtain ⟨i, hi, q⟩ := List.mem_map.mp ha
    obtain ⟨b, o, q1, q2, q3, q4, q5⟩ := o2 i hi
    rw [q1] at q
    have q' : b = a := q
    subst q'; exact q5
  refine ⟨R1, ps, _, s1.rh, pars_ok s1 inO r1 h1 fun i hi a o z1 z2 z3 => ?_, by rw [o1]; exact own_nd s1 h2 o2, h4, fun v R' H' r os A ro ow po => ?_⟩
  · rw [o1] at z3
    obtain ⟨j, hj, q⟩ := List.mem_map.mp z3
    obtain ⟨b, o', q1, q2, _⟩ := o2 j hj
    rw [q1] at q
    have q' : b = a := q
    subst q'
    have := s1.dj i j b o o' z1 q2 z2 q1
    subst this
    exact h3 i hi hj
  · have s2 := s1.after r1 h1 h2 A ow
    refine q v R' H' r _ s2 (e1.trans A.r) ?_ po
    cases r with
    | d x => exact ro
    | own ob =>
      obtain ⟨a, w1, w2, w3, w4⟩ := ro
      refine ⟨a, w1, w2, w3, ?_, fun i o z1 z2 => ?_⟩
      · cases z : c.H0 a with
        | none => rfl
        | some u => exact absurd w4 (s1.pr a (by rw [z]; simp))
      · have : ∃ o, Γ1[i]? = some (.own o) := by
          by_cases hi : i ∈ ownIx ks
          · obtain ⟨_, o', _, q2, _⟩ := o2 i hi; exact ⟨o', q2⟩
          · rw [updOwn_out hi] at z1; exact ⟨o, z1⟩
        obtain ⟨o', z3⟩ := this
        obtain ⟨w, u1, b, u2, u3, _⟩ := s1.sl i _ z3
        rw [z2] at u1; cases u1; cases u2
        exact u3.there w4
theorem we_call {Post : D → SL → Prop} (hc : CalF X n.k nm S) (j : Nat) (h : WA X n c Γ (e :: es) fun ks Γ1 => ∃ ps, pars Γ1 ks = some ps ∧ (ownIx ks).Nodup ∧ (∀ i ∈ readIx ks, i ∉ ownIx ks) ∧ S ps fun r os => ∃ x, r.data = some x ∧ Post x (updOwn Γ1 (ownIx ks) os))
    (hj : n.GN[j]? = some nm := by rfl) (he : starEach (e :: es) X.env = (false, eval e X.env) :: starEach es X.env := by exact se_c rfl) (hpl : (backTo pos (starEach es X.env)).any (·.1) = false := by exact se_any rfl) : WE X n c Γ (.Call (.Name nm p) (e :: es) [] pos) Post := .mk fun hn σ R H s Q q =>
  call_core (Post := fun r Γ' => ∃ x, r.data = some x ∧ Post x Γ') hc j hj hn h he hpl s Q fun v R' H' r Γ' s' e' ro ⟨x, hx, px⟩ => by
    cases r with
    | d y => cases hx; exact q v R' H' x Γ' s' e' ro px
    | own o =>
      obtain ⟨R2, s2, e2, r2⟩ := s'.freezeR ro hx
      exact q v R2 H' x Γ' s2 (e'.trans e2) r2 px
theorem wo_call {Post : OB → SL → Prop} (hc : CalF X n.k nm S) (j : Nat) (h : WA X n c Γ (e :: es) fun ks Γ1 => ∃ ps, pars Γ1 ks = some ps ∧ (ownIx ks).Nodup ∧ (∀ i ∈ readIx ks, i ∉ ownIx ks) ∧ S ps fun r os => ∃ o, r = .own o ∧ Post o (updOwn Γ1 (ownIx ks) os))
    (hj : n.GN[j]? = some nm := by rfl) (he : starEach (e :: es) X.env = (false, eval e X.env) :: starEach es X.env := by exact se_c rfl) (hpl : (backTo pos (starEach es X.env)).any (·.1) = false := by exact se_any rfl) : WO X n c Γ (.Call (.Name nm p) (e :: es) [] pos) Post := .mk fun hn σ R H s Q q =>
  call_core (Post := fun r Γ' => ∃ o, r = .own o ∧ Post o Γ') hc j hj hn h he hpl s Q fun v R' H' r Γ' s' e' ro ⟨x, hx, px⟩ => by
    subst hx; exact q v R' H' x Γ' s' e' ro px
/-- .. by arguments that are told -/
theorem we_callE {ks : List AK} {ps : List Par} {Post : D → SL → Prop} (hc : CalF X n.k nm S) (j : Nat) (ha : EA X n c Γ (e :: es) ks) (h : S ps fun r os => ∃ x, r.data = some x ∧ Post x (updOwn Γ (ownIx ks) os)) (hp : pars Γ ks = some ps := by rfl)
    (hnd : (ownIx ks).Nodup := by decide) (hrd : ∀ i ∈ readIx ks, i ∉ ownIx ks := by decide)
    (hj : n.GN[j]? = some nm := by rfl) (he : starEach (e :: es) X.env = (false, eval e X.env) :: starEach es X.env := by exact se_c rfl) (hpl : (backTo pos (starEach es X.env)).any (·.1) = false := by exact se_any rfl) : WE X n c Γ (.Call (.Name nm p) (e :: es) [] pos) Post :=
  we_call hc j (wa_of ha ⟨ps, hp, hnd, hrd, h⟩) hj he hpl
theorem wo_callE {ks : List AK} {ps : List Par} {Post : OB → SL → Prop} (hc : CalF X n.k nm S) (j : Nat) (ha : EA X n c Γ (e :: es) ks) (h : S ps fun r os => ∃ o, r = .own o ∧ Post o (updOwn Γ (ownIx ks) os)) (hp : pars Γ ks = some ps := by rfl)
    (hnd : (ownIx ks).Nodup := by decide) (hrd : ∀ i ∈ readIx ks, i ∉ ownIx ks := by decide)
    (hj : n.GN[j]? = some nm := by rfl) (he : starEach (e :: es) X.env = (false, eval e X.env) :: starEach es X.env := by exact se_c rfl) (hpl : (backTo pos (starEach es X.env)).any (·.1) = false := by exact se_any rfl) : WO X n c Γ (.Call (.Name nm p) (e :: es) [] pos) Post :=
  wo_call hc j (wa_of ha ⟨ps, hp, hnd, hrd, h⟩) hj he hpl
end
end DL

end
section
set_option Elab.async false
set_option linter.all false
set_option autoImplicit true
set_option maxRecDepth 100000
set_option maxHeartbeats 400000
namespace DL
open PySem L2
open PyProof.Rows hiding St

theorem Wks.get1 {K : PySem.W.Frag} {R H : Hp} {x : D} {vs : List V} (h : Wks K R H [x] vs) : ∃ v, vs = [v] ∧ Wk K R H x v := by
  obtain ⟨v, ws, rfl, h1, h2⟩ := h
  cases (show ws = [] from h2)
  exact ⟨v, rfl, h1⟩
theorem Wks.get2 {K : PySem.W.Frag} {R H : Hp} {x y : D} {vs : List V} (h : Wks K R H [x, y] vs) : ∃ v w, vs = [v, w] ∧ Wk K R H x v ∧ Wk K R H y w := by
  obtain ⟨v, ws, rfl, h1, w, us, rfl, h2, h3⟩ := h
  cases (show us = [] from h3)
  exact ⟨v, w, rfl, h1, h2⟩

section
variable {X : Cx} {n : Nm} {c : Cc} {Γ : SL} {e a b : Expr} {x y z : D} {pos p : Pos} {nm : Str} {es : List Expr} {k l : AK} {ks : List AK} {i j : Int} {xs : List D}
/-! ### built-ins by name -/
structure Blt (X : Cx) (nm : Str) (f : Value) : Prop where
  mg : X.mg nm = none
  bt : bootBuiltins nm = some f
def DCall (X : Cx) (n : Nm) (c : Cc) (f : Value) (P : List D → (D → Prop) → Prop) : Prop := NOk X n c → ∃ r, CallR X f r ∧
  ∀ Γ σ R H xs vs Post, SOk X.K c Γ σ R H → Wks X.K R H xs vs → P xs Post → ∀ Q : VK,
    (∀ u R' H' z, SOk X.K c Γ σ R' H' → Ex R R' → Rp X.K R' z u → Post z → Q u H') → r vs H Q
/-- .. a fresh list or tuple -/
def DCallO (X : Cx) (n : Nm) (c : Cc) (f : Value) (P : List D → (OB → Prop) → Prop) : Prop := NOk X n c → ∃ r, CallR X f r ∧
  ∀ Γ σ R H xs vs Post, SOk X.K c Γ σ R H → Wks X.K R H xs vs → P xs Post → ∀ Q : VK,
    (∀ u R' H' z, SOk X.K c Γ σ R' H' → Ex R R' → VOk X.K c Γ σ R' H' (.own z) u → Post z → Q u H') → r vs H Q
theorem we_blt {id : String} {P : List D → (D → Prop) → Prop} {Post : D → SL → Prop} (hb : Blt X nm (.builtin id)) (ho : DCall X n c (.builtin id) P) (j : Nat) (h : WA X n c Γ (e :: es) fun ks Γ1 => ∃ xs, gets Γ1 ks = some xs ∧ P xs fun z => Post z Γ1)
    (hj : n.GN[j]? = some nm := by rfl) (he : starEach (e :: es) X.env = (false, eval e X.env) :: starEach es X.env := by exact se_c rfl) (hpl : (backTo pos (starEach es X.env)).any (·.1) = false := by exact se_any rfl) : WE X n c Γ (.Call (.Name nm p) (e :: es) [] pos) Post := .mk fun hn σ R H s Q q => by
  obtain ⟨r, h1, h2⟩ := ho hn
  obtain ⟨g1, g2, g3⟩ := hn.gl j nm hj
  refine (pe_callB h1 g1 hb.mg hb.bt pWA g3 g2 he hpl).w (h.run hn σ R H s _ fun vs R1 H1 ks Γ1 s1 e1 r1 ⟨xs, gx, px⟩ => ?_)
  exact h2 Γ1 σ R1 H1 xs vs _ s1 (r1.wks s1 gx) px Q fun u R' H' z s' e' r' p' => q u R' H' z Γ1 s' (e1.trans e') r' p'
theorem we_bty {id : String} {P : List D → (D → Prop) → Prop} {Post : D → SL → Prop} (hb : Blt X nm (.type id)) (ho : DCall X n c (.type id) P) (j : Nat) (h : WA X n c Γ (e :: es) fun ks Γ1 => ∃ xs, gets Γ1 ks = some xs ∧ P xs fun z => Post z Γ1)
    (hj : n.GN[j]? = some nm := by rfl) (he : starEach (e :: es) X.env = (false, eval e X.env) :: starEach es X.env := by exact se_c rfl) (hpl : (backTo pos (starEach es X.env)).any (·.1) = false := by exact se_any rfl) : WE X n c Γ (.Call (.Name nm p) (e :: es) [] pos) Post := .mk fun hn σ R H s Q q => by
  obtain ⟨r, h1, h2⟩ := ho hn
  obtain ⟨g1, g2, g3⟩ := hn.gl j nm hj
  refine (pe_callTy h1 g1 hb.mg hb.bt pWA g3 g2 he hpl).w (h.run hn σ R H s _ fun vs R1 H1 ks Γ1 s1 e1 r1 ⟨xs, gx, px⟩ => ?_)
  exact h2 Γ1 σ R1 H1 xs vs _ s1 (r1.wks s1 gx) px Q fun u R' H' z s' e' r' p' => q u R' H' z Γ1 s' (e1.trans e') r' p'
theorem wo_bty {id : String} {P : List D → (OB → Prop) → Prop} {Post : OB → SL → Prop} (hb : Blt X nm (.type id)) (ho : DCallO X n c (.type id) P) (j : Nat) (h : WA X n c Γ (e :: es) fun ks Γ1 => ∃ xs, gets Γ1 ks = some xs ∧ P xs fun z => Post z Γ1)
    (hj : n.GN[j]? = some nm := by rfl) (he : starEach (e :: es) X.env = (false, eval e X.env) :: starEach es X.env := by exact se_c rfl) (hpl : (backTo pos (starEach es X.env)).any (·.1) = false := by exact se_any rfl) : WO X n c Γ (.Call (.Name nm p) (e :: es) [] pos) Post := .mk fun hn σ R H s Q q => by
  obtain ⟨r, h1, h2⟩ := ho hn
  obtain ⟨g1, g2, g3⟩ := hn.gl j nm hj
  refine (pe_callTy h1 g1 hb.mg hb.bt pWA g3 g2 he hpl).w (h.run hn σ R H s _ fun vs R1 H1 ks Γ1 s1 e1 r1 ⟨xs, gx, px⟩ => ?_)
  exact h2 Γ1 σ R1 H1 xs vs _ s1 (r1.wks s1 gx) px Q fun u R' H' z s' e' r' p' => q u R' H' z Γ1 s' (e1.trans e') r' p'
theorem ev_blt {id : String} {P : List D → (D → Prop) → Prop} (hb : Blt X nm (.builtin id)) (ho : DCall X n c (.builtin id) P) (j : Nat) (ha : EA X n c Γ (e :: es) ks) (hp : ∀ Post : D → Prop, Post z → P xs Post) (hg : gets Γ ks = some xs := by rfl)
    (hj : n.GN[j]? = some nm := by rfl) (he : starEach (e :: es) X.env = (false, eval e X.env) :: starEach es X.env := by exact se_c rfl) (hpl : (backTo pos (starEach es X.env)).any (·.1) = false := by exact se_any rfl) : EV X n c Γ (.Call (.Name nm p) (e :: es) [] pos) z :=
  we_blt hb ho j (wa_of ha ⟨xs, hg, hp _ ⟨rfl, rfl⟩⟩) hj he hpl
theorem ev_bty {id : String} {P : List D → (D → Prop) → Prop} (hb : Blt X nm (.type id)) (ho : DCall X n c (.type id) P) (j : Nat) (ha : EA X n c Γ (e :: es) ks) (hp : ∀ Post : D → Prop, Post z → P xs Post) (hg : gets Γ ks = some xs := by rfl)
    (hj : n.GN[j]? = some nm := by rfl) (he : starEach (e :: es) X.env = (false, eval e X.env) :: starEach es X.env := by exact se_c rfl) (hpl : (backTo pos (starEach es X.env)).any (·.1) = false := by exact se_any rfl) : EV X n c Γ (.Call (.Name nm p) (e :: es) [] pos) z :=
  we_bty hb ho j (wa_of ha ⟨xs, hg, hp _ ⟨rfl, rfl⟩⟩) hj he hpl
theorem eo_bty {id : String} {o : OB} {P : List D → (OB → Prop) → Prop} (hb : Blt X nm (.type id)) (ho : DCallO X n c (.type id) P) (j : Nat) (ha : EA X n c Γ (e :: es) ks) (hp : ∀ Post : OB → Prop, Post o → P xs Post) (hg : gets Γ ks = some xs := by rfl)
    (hj : n.GN[j]? = some nm := by rfl) (he : starEach (e :: es) X.env = (false, eval e X.env) :: starEach es X.env := by exact se_c rfl) (hpl : (backTo pos (starEach es X.env)).any (·.1) = false := by exact se_any rfl) : EO X n c Γ (.Call (.Name nm p) (e :: es) [] pos) o :=
  wo_bty hb ho j (wa_of ha ⟨xs, hg, hp _ ⟨rfl, rfl⟩⟩) hj he hpl
/-- len -/
def D.len : D → Option Nat
  | .lst xs => some xs.length
  | .tup xs => some xs.length
  | .str x => some x.length
  | _ => none
def PLen : List D → (D → Prop) → Prop := fun xs Post => ∃ x m, xs = [x] ∧ x.len = some m ∧ (∀ z, x = .str z → z.length ≤ sizeLine) ∧ Post (.int (m : Int))
theorem dc_len : DCall X n c (.builtin "len") PLen := fun _ => ⟨_, call_len, fun Γ σ R H xs vs Post s hx ⟨x, m, e1, e2, hz, p⟩ Q q => by
  subst e1
  obtain ⟨v, rfl, h1⟩ := hx.get1
  refine ⟨v, m, rfl, ?_, q (.int (m : Int)) R H (.int (m : Int)) s (Ex.refl _) rfl p⟩
  cases x with
  | lst xs => obtain ⟨a, vs, rfl, h2, h3⟩ := h1.lst s.rh; cases e2; exact .inl ⟨vs, .inl (.inl h2), h3.length⟩
  | tup xs => obtain ⟨a, vs, rfl, h2, h3⟩ := h1.tup s.rh; cases e2; exact .inr ⟨vs, h2, h3.length⟩
  | str y => cases h1.str; cases e2; exact ⟨hz y rfl, rfl⟩
  | _ => cases e2⟩
theorem ev_len {m : Nat} (hb : Blt X "len" (.builtin "len")) (j : Nat) (ha : EK X n c Γ e k) (hm : x.len = some m := by rfl) (hz : ∀ z, x = .str z → z.length ≤ sizeLine := by intro _ h; cases h) (hg : k.get Γ = some x := by rfl) (hj : n.GN[j]? = some ("len" : Str) := by rfl)
    (he : starEach [e] X.env = (false, eval e X.env) :: starEach [] X.env := by exact se_c rfl) (hpl : (backTo pos (starEach [] X.env)).any (·.1) = false := by exact se_any rfl) : EV X n c Γ (.Call (.Name "len" p) [e] [] pos) (.int (m : Int)) :=
  ev_blt hb dc_len j (ea_cons ha ea_nil he) (xs := [x]) (fun _ p => ⟨x, m, rfl, hm, hz, p⟩) (by simp [gets, hg]) hj he hpl
/-- abs, max, min, int -/
theorem dc_abs : DCall X n c (.builtin "abs") (fun xs Post => ∃ i, xs = [.int i] ∧ Post (.int (if i < 0 then -i else i))) := fun _ => ⟨_, call_abs, fun Γ σ R H xs vs Post s hx ⟨i, e1, p⟩ Q q => by
  subst e1
  obtain ⟨v, rfl, h1⟩ := hx.get1
  cases h1.int
  exact ⟨i, rfl, q (.int (if i < 0 then -i else i)) R H (.int (if i < 0 then -i else i)) s (Ex.refl _) rfl p⟩⟩
theorem dc_max : DCall X n c (.builtin "max") (fun xs Post => ∃ i j, xs = [.int i, .int j] ∧ Post (.int (if j > i then j else i))) := fun hn => ⟨_, call_max2 hn.calm, fun Γ σ R H xs vs Post s hx ⟨i, j, e1, p⟩ Q q => by
  subst e1
  obtain ⟨v, w, rfl, h1, h2⟩ := hx.get2
  cases h1.int; cases h2.int
  exact ⟨i, j, rfl, q (.int (if j > i then j else i)) R H (.int (if j > i then j else i)) s (Ex.refl _) rfl p⟩⟩
theorem dc_min : DCall X n c (.builtin "min") (fun xs Post => ∃ i j, xs = [.int i, .int j] ∧ Post (.int (if j < i then j else i))) := fun hn => ⟨_, call_min2 hn.calm, fun Γ σ R H xs vs Post s hx ⟨i, j, e1, p⟩ Q q => by
  subst e1
  obtain ⟨v, w, rfl, h1, h2⟩ := hx.get2
  cases h1.int; cases h2.int
  exact ⟨i, j, rfl, q (.int (if j < i then j else i)) R H (.int (if j < i then j else i)) s (Ex.refl _) rfl p⟩⟩
theorem dc_int : DCall X n c (.type "int") (fun xs Post => (∃ i, xs = [.int i] ∧ Post (.int i)) ∨ ∃ b, xs = [.bl b] ∧ Post (.int (if b then 1 else 0))) := fun hn => ⟨_, call_int1, fun Γ σ R H xs vs Post s hx hp Q q => by
  rcases hp with ⟨i, e1, p⟩ | ⟨b, e1, p⟩
  · subst e1
    obtain ⟨v, rfl, h1⟩ := hx.get1
    cases h1.int
    exact .inl ⟨i, rfl, q (.int i) R H (.int i) s (Ex.refl _) rfl p⟩
  · subst e1
    obtain ⟨v, rfl, h1⟩ := hx.get1
    cases h1.bl
    exact .inr ⟨b, rfl, q (.int (if b then 1 else 0)) R H (.int (if b then 1 else 0)) s (Ex.refl _) rfl p⟩⟩
theorem ev_abs (hb : Blt X "abs" (.builtin "abs")) (j : Nat) (ha : EV X n c Γ e (.int i)) (hj : n.GN[j]? = some ("abs" : Str) := by rfl) (he : starEach [e] X.env = (false, eval e X.env) :: starEach [] X.env := by exact se_c rfl) (hpl : (backTo pos (starEach [] X.env)).any (·.1) = false := by exact se_any rfl) : EV X n c Γ (.Call (.Name "abs" p) [e] [] pos) (.int (if i < 0 then -i else i)) :=
  ev_blt hb dc_abs j (ea_cons (ek_d ha) ea_nil he) (fun _ p => ⟨i, rfl, p⟩) rfl hj he hpl
theorem ev_max {jj : Int} (hb : Blt X "max" (.builtin "max")) (j : Nat) (ha : EV X n c Γ a (.int i)) (hb' : EV X n c Γ b (.int jj)) (hj : n.GN[j]? = some ("max" : Str) := by rfl) (he : starEach [a, b] X.env = (false, eval a X.env) :: starEach [b] X.env := by exact se_c rfl) (he2 : starEach [b] X.env = (false, eval b X.env) :: starEach [] X.env := by exact se_c rfl) (hpl : (backTo pos (starEach [b] X.env)).any (·.1) = false := by exact se_any rfl) :
    EV X n c Γ (.Call (.Name "max" p) [a, b] [] pos) (.int (if jj > i then jj else i)) := ev_blt hb dc_max j (ea_cons (ek_d ha) (ea_cons (ek_d hb') ea_nil he2) he) (fun _ p => ⟨i, jj, rfl, p⟩) rfl hj he hpl
theorem ev_min {jj : Int} (hb : Blt X "min" (.builtin "min")) (j : Nat) (ha : EV X n c Γ a (.int i)) (hb' : EV X n c Γ b (.int jj)) (hj : n.GN[j]? = some ("min" : Str) := by rfl) (he : starEach [a, b] X.env = (false, eval a X.env) :: starEach [b] X.env := by exact se_c rfl) (he2 : starEach [b] X.env = (false, eval b X.env) :: starEach [] X.env := by exact se_c rfl) (hpl : (backTo pos (starEach [b] X.env)).any (·.1) = false := by exact se_any rfl) :
    EV X n c Γ (.Call (.Name "min" p) [a, b] [] pos) (.int (if jj < i then jj else i)) := ev_blt hb dc_min j (ea_cons (ek_d ha) (ea_cons (ek_d hb') ea_nil he2) he) (fun _ p => ⟨i, jj, rfl, p⟩) rfl hj he hpl
theorem ev_toint (hb : Blt X "int" (.type "int")) (j : Nat) (ha : EV X n c Γ e (.int i)) (hj : n.GN[j]? = some ("int" : Str) := by rfl) (he : starEach [e] X.env = (false, eval e X.env) :: starEach [] X.env := by exact se_c rfl) (hpl : (backTo pos (starEach [] X.env)).any (·.1) = false := by exact se_any rfl) : EV X n c Γ (.Call (.Name "int" p) [e] [] pos) (.int i) :=
  ev_bty hb dc_int j (ea_cons (ek_d ha) ea_nil he) (fun _ p => .inl ⟨i, rfl, p⟩) rfl hj he hpl
theorem ev_tointb {bb : Bool} (hb : Blt X "int" (.type "int")) (j : Nat) (ha : EV X n c Γ e (.bl bb)) (hj : n.GN[j]? = some ("int" : Str) := by rfl) (he : starEach [e] X.env = (false, eval e X.env) :: starEach [] X.env := by exact se_c rfl) (hpl : (backTo pos (starEach [] X.env)).any (·.1) = false := by exact se_any rfl) : EV X n c Γ (.Call (.Name "int" p) [e] [] pos) (.int (if bb then 1 else 0)) :=
  ev_bty hb dc_int j (ea_cons (ek_d ha) ea_nil he) (fun _ p => .inr ⟨bb, rfl, p⟩) rfl hj he hpl
/-- list(xs), tuple(xs) -/
def D.seq : D → Option (List D)
  | .lst xs => some xs
  | .tup xs => some xs
  | _ => none
theorem dc_list : DCallO X n c (.type "list") (fun xs Post => ∃ x ds, xs = [x] ∧ x.seq = some ds ∧ Post (.lst ds)) := fun hn => ⟨_, call_list_of, fun Γ σ R H xs vs Post s hx ⟨x, ds, e1, e2, p⟩ Q q => by
  subst e1
  obtain ⟨v, rfl, h1⟩ := hx.get1
  have fin : ∀ (us : List V), RpL X.K R ds us → ∀ l, H l = none → Q (.ref l) (upd H l (.lst us)) := fun us hu l hl => by
    have g := s.newOwn (.lst us) hl
    refine q _ R _ (.lst ds) (s.grow g) (Ex.refl _) ⟨l, rfl, ⟨us, upd_same, hu⟩, s.rh.back hl, ?_, fun i o z1 z2 => ?_⟩ p
    · cases z : c.H0 l with
      | none => rfl
      | some u => exact absurd hl (s.pr l (by rw [z]; simp))
    · obtain ⟨w, u1, b, u2, u3, _⟩ := s.sl i _ z1
      rw [z2] at u1; cases u1; cases u2
      exact u3.there hl
  cases x with
  | lst xs => obtain ⟨a, us, rfl, h2, h3⟩ := h1.lst s.rh; cases e2; exact ⟨a, us, rfl, .inl (.inl (.inl h2)), fin us h3⟩
  | tup xs => obtain ⟨a, us, rfl, h2, h3⟩ := h1.tup s.rh; cases e2; exact ⟨a, us, rfl, .inr h2, fin us h3⟩
  | _ => cases e2⟩
theorem dc_tuple : DCall X n c (.type "tuple") (fun xs Post => ∃ x ds, xs = [x] ∧ x.seq = some ds ∧ Post (.tup ds)) := fun hn => ⟨_, call_tuple_of, fun Γ σ R H xs vs Post s hx ⟨x, ds, e1, e2, p⟩ Q q => by
  subst e1
  obtain ⟨v, rfl, h1⟩ := hx.get1
  cases x with
  | lst xs =>
    obtain ⟨a, us, rfl, h2, h3⟩ := h1.lst s.rh; cases e2
    refine ⟨a, us, rfl, .inl ⟨.inl (.inl h2), fun l hl => ?_⟩⟩
    have g := s.new (.tup us) hl
    exact q _ _ _ (.tup ds) (s.grow g) g.r ⟨l, us, rfl, .inl (.inl upd_same), h3.mono g.r⟩ p
  | tup xs =>
    rcases h1 with ⟨a, us, rfl, h2, h3⟩ | ⟨a, us, es, h1, h2, _⟩ | ⟨a, us, es, h1, h2, _⟩
    · cases e2; exact ⟨a, us, rfl, .inr ⟨ex_t s.rh h2, q _ R H (.tup ds) s (Ex.refl _) ⟨a, us, rfl, h2, h3⟩ p⟩⟩
    · cases h2
    · cases h2
  | _ => cases e2⟩
theorem eo_list {ds : List D} (hb : Blt X "list" (.type "list")) (j : Nat) (ha : EK X n c Γ e k) (hs : x.seq = some ds := by rfl) (hg : k.get Γ = some x := by rfl) (hj : n.GN[j]? = some ("list" : Str) := by rfl) (he : starEach [e] X.env = (false, eval e X.env) :: starEach [] X.env := by exact se_c rfl) (hpl : (backTo pos (starEach [] X.env)).any (·.1) = false := by exact se_any rfl) :
    EO X n c Γ (.Call (.Name "list" p) [e] [] pos) (.lst ds) := eo_bty hb dc_list j (ea_cons ha ea_nil he) (xs := [x]) (fun _ p => ⟨x, ds, rfl, hs, p⟩) (by simp [gets, hg]) hj he hpl
theorem ev_tuple {ds : List D} (hb : Blt X "tuple" (.type "tuple")) (j : Nat) (ha : EK X n c Γ e k) (hs : x.seq = some ds := by rfl) (hg : k.get Γ = some x := by rfl) (hj : n.GN[j]? = some ("tuple" : Str) := by rfl) (he : starEach [e] X.env = (false, eval e X.env) :: starEach [] X.env := by exact se_c rfl) (hpl : (backTo pos (starEach [] X.env)).any (·.1) = false := by exact se_any rfl) :
    EV X n c Γ (.Call (.Name "tuple" p) [e] [] pos) (.tup ds) := ev_bty hb dc_tuple j (ea_cons ha ea_nil he) (xs := [x]) (fun _ p => ⟨x, ds, rfl, hs, p⟩) (by simp [gets, hg]) hj he hpl

/-! ### subscripts -/
def DIx (X : Cx) (n : Nm) (c : Cc) (P : D → D → (D → Prop) → Prop) : Prop := NOk X n c → ∃ r, IxR X r ∧
  ∀ Γ σ R H x y v w Post, SOk X.K c Γ σ R H → Wk X.K R H x v → Wk X.K R H y w → P x y Post → ∀ Q : VK,
    (∀ u R' H' z, SOk X.K c Γ σ R' H' → Ex R R' → Rp X.K R' z u → Post z → Q u H') → r v w H Q
theorem we_ix {P : D → D → (D → Prop) → Prop} {Post : D → SL → Prop} (ho : DIx X n c P) (h : WK X n c Γ a fun k Γ1 => WK X n c Γ1 b fun l Γ2 => ∃ x y, k.get Γ2 = some x ∧ l.get Γ2 = some y ∧ P x y fun z => Post z Γ2) (hs : PlainIx b := by intro _ _; rfl) : WE X n c Γ (.Subscript a b pos) Post := .mk fun hn σ R H s Q q => by
  obtain ⟨r, h1, h2⟩ := ho hn
  refine (pe_ix h1 pW pW hs).w (h.run hn σ R H s _ fun v R1 H1 k Γ1 s1 e1 r1 p1 => p1.run hn σ R1 H1 s1 _ fun w R2 H2 l Γ2 s2 e2 r2 ⟨x, y, g1, g2, p2⟩ => ?_)
  exact h2 Γ2 σ R2 H2 x y v w _ s2 ((r1.mono e2).wk s2 g1) (r2.wk s2 g2) p2 Q fun u R' H' z s' e' r' p' => q u R' H' z Γ2 s' (e1.trans (e2.trans e')) r' p'
theorem atI_rp {K : PySem.W.Frag} {R : Hp} {ds : List D} {vs : List V} {i : Int} {d : D} (h : RpL K R ds vs) (e : atI ds i = some d) : ∃ v, atI vs i = some v ∧ Rp K R d v := by
  unfold atI at e ⊢
  rw [← h.length]
  obtain ⟨j, e1, e2⟩ := Option.bind_eq_some_iff.mp e
  obtain ⟨v, h1, h2⟩ := h.get e2
  exact ⟨v, by rw [e1]; exact h1, h2⟩
def D.at (x : D) (i : Int) : Option D := match x with
  | .lst ds => atI ds i
  | .tup ds => atI ds i
  | .str z => if z.length ≤ sizeLine then (atI z.cps.toList i).map fun c => .str ⟨#[c]⟩ else none
  | _ => none
def PIx : D → D → (D → Prop) → Prop := fun x y Post => ∃ i z, y = .int i ∧ x.at i = some z ∧ Post z
theorem di_seq : DIx X n c PIx := fun _ => ⟨_, ix_seq, fun Γ σ R H x y v w Post s hx hy ⟨i, z, e1, e2, p⟩ Q q => by
  subst e1
  cases hy.int
  cases x with
  | lst ds =>
    obtain ⟨a, vs, rfl, h2, h3⟩ := hx.lst s.rh
    obtain ⟨u, h4, h5⟩ := atI_rp h3 e2
    exact .inl ⟨a, vs, i, u, rfl, rfl, .inl (.inl h2), h4, q u R H z s (Ex.refl _) h5 p⟩
  | tup ds =>
    obtain ⟨a, vs, rfl, h2, h3⟩ := hx.tup s.rh
    obtain ⟨u, h4, h5⟩ := atI_rp h3 e2
    exact .inr (.inl ⟨a, vs, i, u, rfl, rfl, h2, h4, q u R H z s (Ex.refl _) h5 p⟩)
  | str y =>
    cases hx.str
    have e3 : (if y.length ≤ sizeLine then (atI y.cps.toList i).map fun c => D.str ⟨#[c]⟩ else none) = some z := e2
    split at e3
    · rename_i hz
      obtain ⟨c, e4, e5⟩ := Option.map_eq_some_iff.mp e3
      subst e5
      exact .inr (.inr ⟨y, i, c, rfl, rfl, hz, e4, q (.str ⟨#[c]⟩) R H (.str ⟨#[c]⟩) s (Ex.refl _) rfl p⟩)
    · cases e3
  | _ => cases e2⟩
theorem ev_ix (ha : EK X n c Γ a k) (hb : EV X n c Γ b (.int i)) (h : x.at i = some z) (hg : k.get Γ = some x := by rfl) (hs : PlainIx b := by intro _ _; rfl) : EV X n c Γ (.Subscript a b pos) z :=
  we_ix di_seq (wk_ek ha (wk_ek (ek_d hb) ⟨x, _, hg, rfl, i, z, rfl, h, rfl, rfl⟩)) hs
/-- t[0], t[1], .. of a written tuple -/
theorem ev_ixt (ha : EV X n c Γ a x) (hb : EV X n c Γ b (.int i)) (h : x.at i = some z := by rfl) (hs : PlainIx b := by intro _ _; rfl) : EV X n c Γ (.Subscript a b pos) z := ev_ix (ek_d ha) hb h rfl hs

/-! ### displays -/
def dats : List AK → Option (List D)
  | [] => some []
  | .d x :: ks => (dats ks).map (x :: ·)
  | _ => none
theorem dats_ok {K : PySem.W.Frag} {R : Hp} {σ : St} : ∀ {ks : List AK} {vs : List V} {xs : List D}, AksOk K R σ ks vs → dats ks = some xs → RpL K R xs vs
  | [], _, _, h, e => by cases e; exact h
  | k :: ks, _, _, ⟨v, ws, h1, h2, h3⟩, e => by
    cases k with
    | d x => obtain ⟨ys, e1, e2⟩ := Option.map_eq_some_iff.mp e; subst e2; exact ⟨v, ws, h1, h2, dats_ok h3 e1⟩
    | _ => cases e
theorem we_tup {x1} {Post : D → SL → Prop} (h : WA X n c Γ es fun ks Γ' => ∃ xs, dats ks = some xs ∧ xs.length ≤ 1000 ∧ Post (.tup xs) Γ') : WE X n c Γ (.Tuple es x1 pos) Post := .mk fun hn σ R H s Q q =>
  (pe_tup pWA).w (h.run hn σ R H s _ fun vs R1 H1 ks Γ1 s1 e1 r1 ⟨xs, hx, hz, px⟩ => by
    have hr := dats_ok r1 hx
    refine ⟨by have := hr.length; rw [sizeLine_eq]; omega, fun l hl => ?_⟩
    have g := s1.new (.tup vs) hl
    exact q _ _ _ (.tup xs) Γ1 (s1.grow g) (e1.trans g.r) ⟨l, vs, rfl, .inl (.inl upd_same), hr.mono g.r⟩ px)
theorem VOk.fresh {K : PySem.W.Frag} {σ : St} {R H : Hp} {l : Addr} {ob : OB} (s : SOk K c Γ σ R H) {o : HO} (hl : H l = none) (h : OBOk K R (upd H l o) l ob) : VOk K c Γ σ R (upd H l o) (.own ob) (.ref l) := by
  refine ⟨l, rfl, h, s.rh.back hl, ?_, fun i o z1 z2 => ?_⟩
  · cases z : c.H0 l with
    | none => rfl
    | some u => exact absurd hl (s.pr l (by rw [z]; simp))
  · obtain ⟨w, u1, b, u2, u3, _⟩ := s.sl i _ z1
    rw [z2] at u1; cases u1; cases u2
    exact u3.there hl
theorem wo_lst {Post : OB → SL → Prop} (h : WA X n c Γ es fun ks Γ' => ∃ xs, dats ks = some xs ∧ xs.length ≤ 1000 ∧ Post (.lst xs) Γ') : WO X n c Γ (.List es pos) Post := .mk fun hn σ R H s Q q =>
  (pe_lst pWA).w (h.run hn σ R H s _ fun vs R1 H1 ks Γ1 s1 e1 r1 ⟨xs, hx, hz, px⟩ => by
    have hr := dats_ok r1 hx
    refine ⟨by have := hr.length; rw [sizeLine_eq]; omega, fun l hl => ?_⟩
    have g := s1.newOwn (.lst vs) hl
    exact q _ _ _ (.lst xs) Γ1 (s1.grow g) (e1.trans g.r) (.fresh s1 hl ⟨vs, upd_same, hr⟩) px)
theorem ev_tup {x1} (h : EA X n c Γ es ks) (hx : dats ks = some xs := by rfl) (hz : Nat.ble xs.length 1000 = true := by rfl) : EV X n c Γ (.Tuple es x1 pos) (.tup xs) := we_tup (wa_of h ⟨xs, hx, Nat.le_of_ble_eq_true hz, rfl, rfl⟩)
theorem eo_lst (h : EA X n c Γ es ks) (hx : dats ks = some xs := by rfl) (hz : Nat.ble xs.length 1000 = true := by rfl) : EO X n c Γ (.List es pos) (.lst xs) := wo_lst (wa_of h ⟨xs, hx, Nat.le_of_ble_eq_true hz, rfl, rfl⟩)

/-! ### list + list, slices -/
theorem wo_cat {Post : OB → SL → Prop} (h : WK X n c Γ a fun k Γ1 => WK X n c Γ1 b fun l Γ2 => ∃ xs ys, k.get Γ2 = some (.lst xs) ∧ l.get Γ2 = some (.lst ys) ∧ xs.length + ys.length ≤ 1000000 ∧ Post (.lst (xs ++ ys)) Γ2) : WO X n c Γ (.BinOp a .Add b pos) Post := .mk fun hn σ R H s Q q =>
  (pe_op op_cat pW pW).w (h.run hn σ R H s _ fun v R1 H1 k Γ1 s1 e1 r1 p1 => p1.run hn σ R1 H1 s1 _ fun w R2 H2 l Γ2 s2 e2 r2 ⟨xs, ys, g1, g2, hz, p2⟩ => by
    obtain ⟨a1, vs, rfl, h2, h3⟩ := ((r1.mono e2).wk s2 g1).lst s2.rh
    obtain ⟨a2, ws, rfl, h4, h5⟩ := (r2.wk s2 g2).lst s2.rh
    refine ⟨a1, a2, vs, ws, rfl, rfl, h2, h4, by rw [← h3.length, ← h5.length, sizeLine_eq]; omega, fun m hm => ?_⟩
    have g := s2.newOwn (.lst (vs ++ ws)) hm
    exact q _ _ _ (.lst (xs ++ ys)) Γ2 (s2.grow g) ((e1.trans e2).trans g.r) (.fresh s2 hm ⟨_, upd_same, h3.append h5⟩) p2)
theorem eo_cat {xs ys : List D} (ha : EK X n c Γ a k) (hb : EK X n c Γ b l) (hz : xs.length + ys.length ≤ 1000000) (ga : k.get Γ = some (.lst xs) := by rfl) (gb : l.get Γ = some (.lst ys) := by rfl) : EO X n c Γ (.BinOp a .Add b pos) (.lst (xs ++ ys)) :=
  wo_cat (wk_ek ha (wk_ek hb ⟨xs, ys, ga, gb, hz, rfl, rfl⟩))
def cutD (xs : List D) (lo hi : Option Int) : List D := (xs.drop (HT.sIx xs.length 0 lo)).take (HT.sIx xs.length xs.length hi - HT.sIx xs.length 0 lo)
theorem RpL.cut {K : PySem.W.Frag} {R : Hp} {ds : List D} {vs : List V} (h : RpL K R ds vs) (lo hi : Option Int) : RpL K R (cutD ds lo hi) (cutV vs lo hi) := by
  unfold cutD cutV
  rw [h.length]
  exact (h.drop _).take _
/-- a part of a slice -/
def EP1 (X : Cx) (n : Nm) (c : Cc) (Γ : SL) (e : Option Expr) (o : Option Int) : Prop := match e, o with
  | none, none => True
  | some e, some i => EV X n c Γ e (.int i)
  | _, _ => False
def tP1 (X : Cx) : Option Expr → TO
  | none => tNoPart
  | some e => tPart (tW X e)
theorem pP1 : ∀ {e : Option Expr}, PO X e (tP1 X e)
  | none => po_none
  | some _ => po_some pW
theorem EP1.run {e : Option Expr} {o : Option Int} (h : EP1 X n c Γ e o) (hn : NOk X n c) {σ R H} (s : SOk X.K c Γ σ R H) (Q : Option Int → Hp → Prop) (q : ∀ R' H', SOk X.K c Γ σ R' H' → Ex R R' → Q o H') : tP1 X e σ H Q := by
  cases e with
  | none => cases o with
    | none => exact q R H s (Ex.refl _)
    | some _ => exact h.elim
  | some e => cases o with
    | none => exact h.elim
    | some i => exact (WE.mono (P' := fun y Γ' => y = .int i ∧ Γ' = Γ) h (fun _ _ h => h)).run hn σ R H s _ fun v R' H' x Γ' s' e' r ⟨h1, h2⟩ => by subst h1 h2; exact ⟨i, r, q R' H' s' e'⟩
theorem eo_slice {lo hi : Option Expr} {l1 h1 : Option Int} {p2 : Pos} {xs : List D} (ha : EK X n c Γ a k) (hl : EP1 X n c Γ lo l1) (hh : EP1 X n c Γ hi h1) (ga : k.get Γ = some (.lst xs) := by rfl) : EO X n c Γ (.Subscript a (.Slice lo hi none p2) pos) (.lst (cutD xs l1 h1)) := .mk fun hn σ R H s Q q =>
  (pe_slice sl_list pW pP1 pP1).w (ha.run hn σ R H s _ fun v R1 H1 k' Γ1 s1 e1 r1 ⟨g1, g2⟩ => by
    subst g1 g2
    exact hl.run hn s1 _ fun R2 H2 s2 e2 => hh.run hn s2 _ fun R3 H3 s3 e3 => by
      obtain ⟨a1, vs, rfl, h2, h3⟩ := (((r1.mono e2).mono e3).wk s3 ga).lst s3.rh
      refine ⟨a1, vs, rfl, .inl (.inl h2), fun m hm => ?_⟩
      have g := s3.newOwn (.lst (cutV vs l1 h1)) hm
      exact q _ _ _ (.lst (cutD xs l1 h1)) _ (s3.grow g) (((e1.trans e2).trans e3).trans g.r) (.fresh s3 hm ⟨_, upd_same, h3.cut _ _⟩) ⟨rfl, rfl⟩)
end
end DL

end
section
set_option Elab.async false
set_option linter.all false
set_option autoImplicit true
set_option maxRecDepth 100000
set_option maxHeartbeats 400000
namespace DL
open PySem L2
open PyProof.Rows hiding St

structure DE where
  nx : SL → Prop
  rt : Res → SL → Prop
  bk : SL → Prop := fun _ => False
  ct : SL → Prop := fun _ => False
structure EndsOk (K : PySem.W.Frag) (c : Cc) (R : Hp) (D : DE) (E : Ends) : Prop where
  nx : ∀ σ R' H Γ, SOk K c Γ σ R' H → Ex R R' → D.nx Γ → E.nx σ H
  rt : ∀ v σ R' H Γ r, SOk K c Γ σ R' H → Ex R R' → VOk K c Γ σ R' H r v → D.rt r Γ → E.rt v H
  bk : ∀ σ R' H Γ, SOk K c Γ σ R' H → Ex R R' → D.bk Γ → E.bk σ H
  ct : ∀ σ R' H Γ, SOk K c Γ σ R' H → Ex R R' → D.ct Γ → E.ct σ H
theorem EndsOk.mono {K : PySem.W.Frag} {c : Cc} {R R1 : Hp} {D : DE} {E : Ends} (h : EndsOk K c R D E) (e : Ex R R1) : EndsOk K c R1 D E :=
  ⟨fun σ R' H Γ s e' => h.nx σ R' H Γ s (e.trans e'), fun v σ R' H Γ r s e' => h.rt v σ R' H Γ r s (e.trans e'), fun σ R' H Γ s e' => h.bk σ R' H Γ s (e.trans e'), fun σ R' H Γ s e' => h.ct σ R' H Γ s (e.trans e')⟩
structure WS (X : Cx) (n : Nm) (c : Cc) (Γ : SL) (st : Stmt) (D : DE) : Prop where
  run : NOk X n c → ∀ σ R H, SOk X.K c Γ σ R H → ∀ E : Ends, EndsOk X.K c R D E → tWS X st E σ H
structure WB (X : Cx) (n : Nm) (c : Cc) (Γ : SL) (st : List Stmt) (D : DE) : Prop where
  run : NOk X n c → ∀ σ R H, SOk X.K c Γ σ R H → ∀ E : Ends, EndsOk X.K c R D E → tWB X st E σ H

section
variable {K : PySem.W.Frag} {c : Cc} {Γ : SL} {σ : St} {R H R' H' : Hp}
def OB.isL : OB → Bool
  | .dic _ => false
  | _ => true
def Slot.isOwn : Slot → Bool
  | .own _ => true
  | _ => false
/-- a slot is stored to -/
theorem SOk.set (s : SOk K c Γ σ R H) (i : Nat) {v : Option V} {sl : Slot} (hs : sl.isOwn = false) (h : SlotOk K c R H sl v) (hi : i ∉ c.oi.map (·.1)) : SOk K c (Γ.set i sl) (σ.set i v) R H := by
  refine ⟨s.rh, s.r0, s.hm, s.pr, s.un, by simp [s.len], fun j x e => ?_, fun j k a o o' e1 e2 e3 e4 => ?_, fun p hp => ?_⟩
  · by_cases hj : i = j
    · subst hj
      have hl : i < Γ.length := by have := (List.getElem?_eq_some_iff.mp e).1; simpa using this
      rw [List.getElem?_set_self hl] at e; cases e
      exact ⟨v, List.getElem?_set_self (by rw [← s.len]; exact hl), h⟩
    · rw [List.getElem?_set_ne hj] at e ⊢
      exact s.sl j x e
  · have ne : ∀ (j : Nat) (o : OB), (Γ.set i sl)[j]? = some (.own o) → i ≠ j := fun j o e z => by
      subst z
      have hl : i < Γ.length := by have := (List.getElem?_eq_some_iff.mp e).1; simpa using this
      rw [List.getElem?_set_self hl] at e; cases e; cases hs
    have n1 := ne j o e1
    have n2 := ne k o' e2
    rw [List.getElem?_set_ne n1] at e1 e3
    rw [List.getElem?_set_ne n2] at e2 e4
    exact s.dj j k a o o' e1 e2 e3 e4
  · have hn : i ≠ p.1 := fun z => hi (by rw [z]; exact List.mem_map_of_mem hp)
    rw [List.getElem?_set_ne hn, List.getElem?_set_ne hn]
    exact s.oi p hp
theorem SOk.setD (s : SOk K c Γ σ R H) (i : Nat) {v : V} {x : D} (h : Rp K R x v) (hi : i ∉ c.oi.map (·.1)) : SOk K c (Γ.set i (.d x)) (σ.set i (some v)) R H := s.set i (sl := .d x) rfl ⟨v, rfl, h⟩ hi
theorem SOk.setO (s : SOk K c Γ σ R H) (i : Nat) {v : V} {o : OB} (h : VOk K c Γ σ R H (.own o) v) (hi : i ∉ c.oi.map (·.1)) : SOk K c (Γ.set i (.own o)) (σ.set i (some v)) R H := by
  obtain ⟨a, rfl, h2, h3, h4, h5⟩ := h
  refine ⟨s.rh, s.r0, s.hm, s.pr, s.un, by simp [s.len], fun j x e => ?_, fun j k b o1 o2 e1 e2 e3 e4 => ?_, fun p hp => ?_⟩
  · by_cases hj : i = j
    · subst hj
      have hl : i < Γ.length := by have := (List.getElem?_eq_some_iff.mp e).1; simpa using this
      rw [List.getElem?_set_self hl] at e; cases e
      exact ⟨_, List.getElem?_set_self (by rw [← s.len]; exact hl), a, rfl, h2, h3, .inl h4⟩
    · rw [List.getElem?_set_ne hj] at e ⊢
      exact s.sl j x e
  · have at_i : ∀ b, (σ.set i (some (.ref a)))[i]? = some (some (.ref b)) → b = a := fun b e => by
      have hl : i < σ.length := by have := (List.getElem?_eq_some_iff.mp e).1; simpa using this
      rw [List.getElem?_set_self hl] at e; cases e; rfl
    by_cases hj : i = j
    · by_cases hk : i = k
      · exact hj.symm.trans hk
      · subst hj
        have := at_i b e3; subst this
        rw [List.getElem?_set_ne hk] at e2 e4
        exact absurd e4 (h5 k o2 e2)
    · by_cases hk : i = k
      · subst hk
        have := at_i b e4; subst this
        rw [List.getElem?_set_ne hj] at e1 e3
        exact absurd e3 (h5 j o1 e1)
      · rw [List.getElem?_set_ne hj] at e1 e3
        rw [List.getElem?_set_ne hk] at e2 e4
        exact s.dj j k b o1 o2 e1 e2 e3 e4
  · have hn : i ≠ p.1 := fun z => hi (by rw [z]; exact List.mem_map_of_mem hp)
    rw [List.getElem?_set_ne hn, List.getElem?_set_ne hn]
    exact s.oi p hp
/-- what slot i owns is changed -/
theorem SOk.mut (s : SOk K c Γ σ R H) (i : Nat) {a : Addr} {ob ob' : OB} {o : HO} (hΓ : Γ[i]? = some (.own ob)) (hσ : σ[i]? = some (some (.ref a))) (h : OBOk K R (upd H a o) a ob') : SOk K c (Γ.set i (.own ob')) σ R (upd H a o) := by
  obtain ⟨w, w1, b, w2, w3, w4, w5⟩ := s.sl i _ hΓ
  rw [hσ] at w1; cases w1; cases w2
  have hl : i < Γ.length := (List.getElem?_eq_some_iff.mp hΓ).1
  have un : ∀ (j : Nat) (o : OB), (Γ.set i (.own ob'))[j]? = some (.own o) → ∃ o, Γ[j]? = some (.own o) := fun j o e => by
    by_cases hj : i = j
    · subst hj; exact ⟨_, hΓ⟩
    · rw [List.getElem?_set_ne hj] at e; exact ⟨o, e⟩
  refine ⟨fun b u e => ?_, s.r0, fun b u n e => ?_, fun b n => ?_, s.un, by simp [s.len], fun j x e => ?_, fun j k b o1 o2 e1 e2 e3 e4 => ?_, fun p hp => ?_⟩
  · rw [upd_ne (fun z => by rw [z, w4] at e; cases e)]; exact s.rh b u e
  · rw [upd_ne (fun z => by
      rcases w5 with w5 | w5
      · rw [z, w5] at e; cases e
      · exact n (z ▸ w5))]
    exact s.hm b u n e
  · by_cases z : b = a
    · subst z; rw [upd_same]; simp
    · rw [upd_ne z]; exact s.pr b n
  · by_cases hj : i = j
    · subst hj
      rw [List.getElem?_set_self hl] at e; cases e
      exact ⟨_, hσ, a, rfl, h, w4, w5⟩
    · rw [List.getElem?_set_ne hj] at e
      obtain ⟨u, u1, u2⟩ := s.sl j x e
      refine ⟨u, u1, ?_⟩
      cases x with
      | no => exact u2
      | any => exact u2
      | d x => exact u2
      | sc ns => exact u2
      | w x => obtain ⟨v, z1, z2⟩ := u2; exact ⟨v, z1, z2.mono (Ex.refl _) fun b o nb q => by rw [upd_ne (fun z => nb (by rw [z]; exact w5))]; exact q⟩
      | own o2 =>
        obtain ⟨b, z1, z2, z3, z4⟩ := u2
        subst z1
        refine ⟨b, rfl, z2.mono (Ex.refl _) fun o q => ?_, z3, z4⟩
        rw [upd_ne (fun z => by subst z; exact hj (s.dj i j b ob o2 hΓ e hσ u1))]; exact q
  · obtain ⟨u, z1⟩ := un j o1 e1
    obtain ⟨u', z2⟩ := un k o2 e2
    exact s.dj j k b u u' z1 z2 e3 e4
  · obtain ⟨w1, o, w2⟩ := s.oi p hp
    refine ⟨w1, ?_⟩
    by_cases hj : i = p.1
    · rw [← hj, List.getElem?_set_self hl]; exact ⟨_, rfl⟩
    · rw [List.getElem?_set_ne hj]; exact ⟨o, w2⟩
end

section
variable {X : Cx} {n : Nm} {c : Cc} {Γ : SL} {e a b : Expr} {x y z : D} {pos p : Pos} {nm : Str} {es : List Expr} {k l : AK} {ks : List AK} {xs : List D} {st : Stmt} {rest : List Stmt} {D : DE}
theorem NOk.noi (hn : NOk X n c) {i : Nat} (h : n.oi.contains i = false) : i ∉ c.oi.map (·.1) := fun z => by
  rw [hn.oi] at z
  rw [List.contains_eq_mem] at h
  simp [z] at h
theorem wb_nil (h : D.nx Γ) : WB X n c Γ [] D := .mk fun hn σ R H s E ok => pss_nil.w (ok.nx σ R H Γ s (Ex.refl _) h)
theorem wb_cons (h : WS X n c Γ st { D with nx := fun Γ' => WB X n c Γ' rest D }) : WB X n c Γ (st :: rest) D := .mk fun hn σ R H s E ok =>
  (pss_cons pWS pWB).w (h.run hn σ R H s _ ⟨fun σ' R' H' Γ' s' e w => w.run hn σ' R' H' s' E (ok.mono e), ok.rt, ok.bk, ok.ct⟩)
theorem wb_cut (Mid : SL → Prop) (h : WS X n c Γ st { D with nx := Mid }) (h2 : ∀ Γ', Mid Γ' → WB X n c Γ' rest D) : WB X n c Γ (st :: rest) D := .mk fun hn σ R H s E ok =>
  (pss_cons pWS pWB).w (h.run hn σ R H s _ ⟨fun σ' R' H' Γ' s' e w => (h2 Γ' w).run hn σ' R' H' s' E (ok.mono e), ok.rt, ok.bk, ok.ct⟩)
theorem wb_one (h : WS X n c Γ st D) : WB X n c Γ [st] D := wb_cons (by
  refine .mk fun hn σ R H s E ok => ?_
  exact h.run hn σ R H s E ⟨fun σ' R' H' Γ' s' e w => ok.nx σ' R' H' Γ' s' e (wb_nil w), ok.rt, ok.bk, ok.ct⟩)
theorem WB.mono {sts : List Stmt} {D D' : DE} (h : WB X n c Γ sts D) (h1 : ∀ Γ, D.nx Γ → D'.nx Γ) (h2 : ∀ r Γ, D.rt r Γ → D'.rt r Γ) (h3 : ∀ Γ, D.bk Γ → D'.bk Γ) (h4 : ∀ Γ, D.ct Γ → D'.ct Γ) : WB X n c Γ sts D' := .mk fun hn σ R H s E ok =>
  h.run hn σ R H s E ⟨fun σ' R' H' Γ' s' e w => ok.nx σ' R' H' Γ' s' e (h1 _ w), fun v σ' R' H' Γ' r s' e ro w => ok.rt v σ' R' H' Γ' r s' e ro (h2 _ _ w), fun σ' R' H' Γ' s' e w => ok.bk σ' R' H' Γ' s' e (h3 _ w), fun σ' R' H' Γ' s' e w => ok.ct σ' R' H' Γ' s' e (h4 _ w)⟩
/-- name = data, name = a fresh thing -/
theorem ws_set (i : Nat) {p' : Pos} (h : WE X n c Γ e fun x Γ' => D.nx (Γ'.set i (.d x))) (hi : n.N[i]? = some nm := by rfl) (ha : n.as.contains i = true := by rfl) (ho : n.oi.contains i = false := by rfl) (hs : swapsWith e (some (.Name nm p')) pos.line X.env = pure false := by rfl) :
    WS X n c Γ (.Assign [.Name nm p'] e pos) D := .mk fun hn σ R H s E ok => by
  obtain ⟨l1, l2⟩ := hn.loc i nm ha hi
  exact (ps_set (by rw [hn.eq]; exact hn.nd) (by rw [hn.eq]; exact hi) l1 pW hs l2).w (h.run hn σ R H s _ fun v R' H' x Γ' s' e' r p => ok.nx _ R' H' _ (s'.setD i r (hn.noi ho)) e' p)
theorem ws_setO (i : Nat) {p' : Pos} (h : WO X n c Γ e fun o Γ' => D.nx (Γ'.set i (.own o))) (hi : n.N[i]? = some nm := by rfl) (ha : n.as.contains i = true := by rfl) (ho : n.oi.contains i = false := by rfl) (hs : swapsWith e (some (.Name nm p')) pos.line X.env = pure false := by rfl) :
    WS X n c Γ (.Assign [.Name nm p'] e pos) D := .mk fun hn σ R H s E ok => by
  obtain ⟨l1, l2⟩ := hn.loc i nm ha hi
  exact (ps_set (by rw [hn.eq]; exact hn.nd) (by rw [hn.eq]; exact hi) l1 pW hs l2).w (h.run hn σ R H s _ fun v R' H' x Γ' s' e' r p => ok.nx _ R' H' _ (s'.setO i r (hn.noi ho)) e' p)
theorem sw_par {env : Env} {a b : Expr} {nx ny : Str} {px py pt : Pos} {kt k2 : Nat} {pt2 : Pos} (hk : env.scope.kind = .function) (hx : env.scope.names.lookup nx = some .local) (hy : env.scope.names.lookup ny = some .local) (hne : nx ≠ ny) (hl : (py.line == px.line) = true)
    (hsa : ∀ v p, a ≠ .Starred v p) (hsb : ∀ v p, b ≠ .Starred v p) (hf : [a, b].all (foldedForSure 8) = false) (hc : [a, b].all (constantsAlone 8) = false) : swappedStores [.Tuple [.Name nx px, .Name ny py] kt pt] (.Tuple [a, b] k2 pt2) env = pure (some [nx, ny]) := by
  have ky : env.kindOf nx = some .local := hx
  have kz : env.kindOf ny = some .local := hy
  have hb : env.blockKind = .function := by unfold Env.blockKind; rw [hk] <;> rfl
  have hl' : py.line = px.line := by simpa using hl
  have e4 : (ny == nx) = false := by simpa using Ne.symm hne
  have e3 : ([nx, ny] : List Str).eraseDups = [nx, ny] := by
    simp [List.eraseDups, List.eraseDupsBy, List.eraseDupsBy.loop, e4]
  unfold swappedStores
  simp only [hb, hf, hc, Expr.pos, List.head?_cons, Option.map_some, Option.getD_some, List.filterMap_cons, List.filterMap_nil, ky, kz, hl', beq_self_eq_true, Bool.and_self, if_true, e3]
  simp
/-- a, b = x, y -/
theorem ws_par (i j : Nat) {nx ny : Str} {px py pt : Pos} {kt k2 : Nat} {pt2 : Pos} (h : WA X n c Γ [a, b] fun ks Γ' => ∃ u v, ks = [.d u, .d v] ∧ D.nx ((Γ'.set i (.d u)).set j (.d v))) (hi : n.N[i]? = some nx := by rfl) (hj : n.N[j]? = some ny := by rfl) (hij : i ≠ j := by decide)
    (li : n.lc.contains i = true := by rfl) (lj : n.lc.contains j = true := by rfl) (oi : n.oi.contains i = false := by rfl) (oj : n.oi.contains j = false := by rfl) (hl : (py.line == px.line) = true := by rfl)
    (hsa : ∀ v p, a ≠ .Starred v p := by intro _ _ h; cases h) (hsb : ∀ v p, b ≠ .Starred v p := by intro _ _ h; cases h) (hf : [a, b].all (foldedForSure 8) = false := by rfl) (hc : [a, b].all (constantsAlone 8) = false := by rfl) (hs : swapsWithSole [.Tuple [.Name nx px, .Name ny py] kt pt] (.Tuple [a, b] k2 pt2) pos.line X.env = pure false := by rfl) :
    WS X n c Γ (.Assign [.Tuple [.Name nx px, .Name ny py] kt pt] (.Tuple [a, b] k2 pt2) pos) D := .mk fun hn σ R H s E ok =>
  (ps_par hn.calm (by rw [hn.eq]; exact hn.nd) (by rw [hn.eq]; exact hi) (by rw [hn.eq]; exact hj) hij (hn.lc i nx li hi) (hn.lc j ny lj hj) pWA
    (sw_par hn.kind (hn.lc i nx li hi) (hn.lc j ny lj hj) (fun z => hij (nd_ix hn.nd hi (by rw [z]; exact hj))) hl hsa hsb hf hc) hs).w
    (h.run hn σ R H s _ fun vs R' H' ks Γ' s' e' r ⟨u, v, hk, p⟩ => by
      subst hk
      obtain ⟨w1, ws, rfl, h1, w2, ws2, rfl, h2, h3⟩ := r
      cases (show ws2 = [] from h3)
      exact ⟨w1, w2, rfl, ok.nx _ R' H' _ ((s'.setD i h1 (hn.noi oi)).setD j h2 (hn.noi oj)) e' p⟩)
/-- a, b = a tuple's two things; three, four -/
theorem ws_unp2 (i j : Nat) {nx ny : Str} {px py pt : Pos} {kt : Nat} (h : WE X n c Γ e fun x Γ' => ∃ u v, x = .tup [u, v] ∧ D.nx ((Γ'.set i (.d u)).set j (.d v))) (hi : n.N[i]? = some nx := by rfl) (hj : n.N[j]? = some ny := by rfl)
    (li : n.as.contains i = true := by rfl) (lj : n.as.contains j = true := by rfl) (oi : n.oi.contains i = false := by rfl) (oj : n.oi.contains j = false := by rfl)
    (h1 : (assignEach [.Name nx px, .Name ny py] X.env).map (·.2) = assign (.Name nx px) X.env :: (assignEach [.Name ny py] X.env).map (·.2) := by rfl) (h2 : (assignEach [.Name ny py] X.env).map (·.2) = assign (.Name ny py) X.env :: (assignEach [] X.env).map (·.2) := by rfl)
    (h3 : (assignEach [.Name nx px, .Name ny py] X.env).length = 2 := by rfl) (h4 : (assignEach [.Name nx px, .Name ny py] X.env).findIdx? (·.1) = none := by rfl)
    (hs : swapsWithSole [.Tuple [.Name nx px, .Name ny py] kt pt] e pos.line X.env = pure false := by rfl) (hw : swappedStores [.Tuple [.Name nx px, .Name ny py] kt pt] e X.env = pure none := by rfl)
    (h5 : (assignEach [.Tuple [.Name nx px, .Name ny py] kt pt] X.env).map (·.2) = [assign (.Tuple [.Name nx px, .Name ny py] kt pt) X.env] := by rfl) :
    WS X n c Γ (.Assign [.Tuple [.Name nx px, .Name ny py] kt pt] e pos) D := .mk fun hn σ R H s E ok => by
  obtain ⟨l1, l2⟩ := hn.loc i nx li hi
  obtain ⟨l3, l4⟩ := hn.loc j ny lj hj
  have nd : X.N.Nodup := by rw [hn.eq]; exact hn.nd
  refine (ps_asg pW (pg_tup hn.calm (pgs_cons (pg_name nd (by rw [hn.eq]; exact hi) l1 l2) (pgs_cons (pg_name nd (by rw [hn.eq]; exact hj) l3 l4) pgs_nil h2) h1) h3 h4) hs hw h5).w (h.run hn σ R H s _ fun v R' H' x Γ' s' e' r ⟨u, w, hx, p⟩ => ?_)
  subst hx
  obtain ⟨t, vs, rfl, hT, v1, ws, rfl, q1, v2, ws2, rfl, q2, q3⟩ := r
  cases (show ws2 = [] from q3)
  exact ⟨t, _, rfl, ex_t s'.rh hT, rfl, v1, [v2], rfl, v2, [], rfl, rfl, ok.nx _ R' H' _ ((s'.setD i q1 (hn.noi oi)).setD j q2 (hn.noi oj)) e' p⟩
/-- e as a statement -/
theorem ws_expr (h : WE X n c Γ e fun _ Γ' => D.nx Γ') (hs : swapsWith e none pos.line X.env = pure false := by rfl) : WS X n c Γ (.Expr e pos) D := .mk fun hn σ R H s E ok =>
  (ps_expr pW hs).w (h.run hn σ R H s _ fun v R' H' x Γ' s' e' r p => ok.nx σ R' H' Γ' s' e' p)
theorem ws_pass (h : D.nx Γ) : WS X n c Γ (.Pass pos) D := .mk fun hn σ R H s E ok => ps_pass.w (ok.nx σ R H Γ s (Ex.refl _) h)
theorem ws_brk (h : D.bk Γ) : WS X n c Γ (.Break pos) D := .mk fun hn σ R H s E ok => ps_break.w (ok.bk σ R H Γ s (Ex.refl _) h)
theorem ws_cont (h : D.ct Γ) : WS X n c Γ (.Continue pos) D := .mk fun hn σ R H s E ok => ps_continue.w (ok.ct σ R H Γ s (Ex.refl _) h)
theorem ws_ret (h : WE X n c Γ e fun x Γ' => D.rt (.d x) Γ') : WS X n c Γ (.Return (some e) pos) D := .mk fun hn σ R H s E ok =>
  (ps_ret pW).w (h.run hn σ R H s _ fun v R' H' x Γ' s' e' r p => ok.rt v σ R' H' Γ' (.d x) s' e' r p)
theorem ws_retO (h : WO X n c Γ e fun x Γ' => D.rt (.own x) Γ') : WS X n c Γ (.Return (some e) pos) D := .mk fun hn σ R H s E ok =>
  (ps_ret pW).w (h.run hn σ R H s _ fun v R' H' x Γ' s' e' r p => ok.rt v σ R' H' Γ' (.own x) s' e' r p)
theorem ws_retN (h : D.rt (.d .non) Γ) : WS X n c Γ (.Return none pos) D := .mk fun hn σ R H s E ok => ps_retN.w (ok.rt .non σ R H Γ (.d .non) s (Ex.refl _) rfl h)
/-- return of a name that owns: it is given away -/
theorem ws_retS (i : Nat) {o : OB} (h : D.rt (.own o) (Γ.set i .any)) (hg : Γ[i]? = some (.own o) := by rfl) (hi : n.N[i]? = some nm := by rfl) (hv : n.V.contains i = true := by rfl) (ho : n.oi.contains i = false := by rfl) : WS X n c Γ (.Return (some (.Name nm p)) pos) D := .mk fun hn σ R H s E ok => by
  obtain ⟨h1, h2⟩ := hn.dbg i nm hi
  refine (ps_ret (pe_var (i := i) (by rw [hn.eq]; exact hi) (hn.vis i nm hv hi) h1 h2)).w ?_
  obtain ⟨w, e1, a, e2, w3, w4, w5⟩ := s.sl i _ hg
  subst e2
  have hl : i < Γ.length := (List.getElem?_eq_some_iff.mp hg).1
  have s2 : SOk X.K c (Γ.set i .any) (σ.set i (some (.ref a))) R H := s.set i (v := some (.ref a)) rfl trivial (hn.noi ho)
  have es : σ.set i (some (.ref a)) = σ := by
    apply List.ext_getElem?
    intro j
    by_cases hj : i = j
    · subst hj; rw [List.getElem?_set_self (by rw [← s.len]; exact hl), e1]
    · rw [List.getElem?_set_ne hj]
  rw [es] at s2
  refine ⟨_, e1, ok.rt _ σ R H _ (.own o) s2 (Ex.refl _) ⟨a, rfl, w3, w4, ?_, fun j o' z1 z2 => ?_⟩ h⟩
  · rcases w5 with w5 | w5
    · exact w5
    · obtain ⟨j, hj⟩ := hn.cm a w5
      obtain ⟨z1, o', z2⟩ := s.oi _ hj
      have := s.dj i j a o o' hg z2 e1 z1
      exact absurd (by rw [this]; exact List.mem_map_of_mem hj) (hn.noi ho)
  · by_cases hj : i = j
    · subst hj; rw [List.getElem?_set_self hl] at z1; cases z1
    · rw [List.getElem?_set_ne hj] at z1
      exact hj (s.dj i j a o o' hg z1 e1 z2)
theorem ws_if {t : Expr} {A B : List Stmt} (h : WT X n c Γ t fun b Γ' => (b = true → WB X n c Γ' A D) ∧ (b = false → WB X n c Γ' B D)) : WS X n c Γ (.If t A B pos) D := .mk fun hn σ R H s E ok =>
  (ps_if pWT pWB pWB).w (h.run hn σ R H s _ fun R' H' b Γ' s' e' ⟨p1, p2⟩ => by
    cases b with
    | true => exact (p1 rfl).run hn σ R' H' s' E (ok.mono e')
    | false => exact (p2 rfl).run hn σ R' H' s' E (ok.mono e'))
theorem ws_ifE {t : Expr} {A B : List Stmt} {q : Bool} (h : ET X n c Γ t q) (h1 : q = true → WB X n c Γ A D) (h2 : q = false → WB X n c Γ B D) : WS X n c Γ (.If t A B pos) D := ws_if (wt_of h ⟨h1, h2⟩)
/-! ### what a slot owns is changed by a method, by an item's store -/
def DMt (X : Cx) (id : String) (P : List DL.D → List DL.D → (DL.D → List DL.D → Prop) → Prop) : Prop := ∃ r, MtR X id r ∧ ∀ R H a ds vs as ws Post, H a = some (.lst vs) → RpL X.K R ds vs → RpL X.K R as ws → P ds as Post → ∀ Q : VK,
  (∀ u us z zs, RpL X.K R zs us → Rp X.K R z u → Post z zs → Q u (upd H a (.lst us))) → r (.ref a) ws H Q
theorem dm_append : DMt X "list.append" (fun ds as Post => ∃ x, as = [x] ∧ ds.length < 1000000 ∧ Post .non (ds ++ [x])) := ⟨_, mt_append, fun R H a ds vs as ws Post h1 h2 h3 ⟨x, e, hz, p⟩ Q q => by
  subst e
  obtain ⟨v, w, rfl, h4, h5⟩ := h3
  cases (show w = [] from h5)
  exact ⟨a, vs, v, rfl, rfl, h1, by rw [← h2.length, sizeLine_eq]; omega, q _ _ .non _ (h2.append (.one h4)) rfl p⟩⟩
theorem dm_insert : DMt X "list.insert" (fun ds as Post => ∃ i x, as = [.int i, x] ∧ 0 ≤ i ∧ i < 2 ^ 62 ∧ ds.length < 1000000 ∧ Post .non (ds.take i.toNat ++ [x] ++ ds.drop i.toNat)) := ⟨_, mt_insert, fun R H a ds vs as ws Post h1 h2 h3 ⟨i, x, e, h0, h63, hz, p⟩ Q q => by
  subst e
  obtain ⟨v, w, rfl, h4, v2, w2, rfl, h6, h7⟩ := h3
  cases (show w2 = [] from h7)
  cases (show v = .int i from h4)
  exact ⟨a, vs, i, v2, rfl, rfl, h1, by rw [← h2.length, sizeLine_eq]; omega, h0, by omega, q _ _ .non _ (((h2.take _).append (.one h6)).append (h2.drop _)) rfl p⟩⟩
theorem dm_pop : DMt X "list.pop" (fun ds as Post => ∃ x, as = [] ∧ ds[ds.length - 1]? = some x ∧ Post x ds.dropLast) := ⟨_, mt_pop, fun R H a ds vs as ws Post h1 h2 h3 ⟨x, e, hx, p⟩ Q q => by
  subst e
  cases (show ws = [] from h3)
  obtain ⟨v, h4, h5⟩ := h2.get hx
  exact ⟨a, vs, v, rfl, rfl, h1, by rw [← h2.length]; exact h4, q _ _ x _ h2.dropLast h5 p⟩⟩
theorem dm_popAt : DMt X "list.pop" (fun ds as Post => ∃ (i : Nat) (x : DL.D), as = [.int (i : Int)] ∧ (i : Int) < 2 ^ 62 ∧ ds[i]? = some x ∧ Post x (ds.eraseIdx i)) := ⟨_, mt_popAt, fun R H a ds vs as ws Post h1 h2 h3 ⟨i, x, e, h62, hx, p⟩ Q q => by
  subst e
  obtain ⟨v, w, rfl, h4, h5⟩ := h3
  cases (show w = [] from h5)
  cases (show v = .int (i : Int) from h4)
  obtain ⟨u, h6, h7⟩ := h2.get hx
  have hl : i < vs.length := (List.getElem?_eq_some_iff.mp h6).1
  exact ⟨a, vs, (i : Int), i, u, rfl, rfl, h1, by omega, by omega, by rw [PySem.StrLaws.seqIndex_nonneg (by omega) (by omega)]; simp, h6, q _ _ x _ (h2.erase _) h7 p⟩⟩
theorem dm_clear : DMt X "list.clear" (fun ds as Post => as = [] ∧ Post .non []) := ⟨_, mt_clear, fun R H a ds vs as ws Post h1 h2 h3 ⟨e, p⟩ Q q => by
  subst e
  cases (show ws = [] from h3)
  exact ⟨a, vs, rfl, rfl, h1, q _ _ .non _ .nil rfl p⟩⟩
variable {id : String} {P : List DL.D → List DL.D → (DL.D → List DL.D → Prop) → Prop} {meth : Str} {ap : Pos}
theorem we_meth (i : Nat) {Post : DL.D → SL → Prop} (hm : DMt X id P) (pa : PlainAttrs "list") (slot : PySem.Slot "list" meth id) (hty : typeOf (.builtin id) = pure (.type "method_descriptor"))
    (h : WA X n c Γ (e :: es) fun ks Γ' => ∃ as ds, dats ks = some as ∧ Γ'[i]? = some (.own (.lst ds)) ∧ P ds as fun z zs => Post z (Γ'.set i (.own (.lst zs)))) {o0 : OB} (hg : Γ[i]? = some (.own o0) := by rfl) (hL : o0.isL = true := by rfl) (hi : n.N[i]? = some nm := by rfl) (hv : n.V.contains i = true := by rfl)
    (hbase : attributeBase (.Name nm p) meth X.env (eval (.Name nm p) X.env) = eval (.Name nm p) X.env := by rfl)
    (hfew : ((backTo pos (starEach (e :: es) X.env)).all (fun x => !x.1) && (backToKw pos (keywordEach [] X.env)).all (fun x => x.1.isSome)
      && decide ((e :: es).length + ([] : List Keyword).length + (if ([] : List Keyword).isEmpty then 0 else 1) < 30)) = true := by rfl)
    (hline : (ap.endLine == pos.line) = true := by rfl) (hs : starEach (e :: es) X.env = (false, eval e X.env) :: starEach es X.env := by exact se_c rfl) (hplain : (backTo pos (starEach es X.env)).any (·.1) = false := by exact se_any rfl) :
    WE X n c Γ (.Call (.Attribute (.Name nm p) meth ap) (e :: es) [] pos) Post := .mk fun hn σ R H s Q q => by
  obtain ⟨h1, h2⟩ := hn.dbg i nm hi
  obtain ⟨r, m1, m2⟩ := hm
  refine (pe_bm pa slot hty m1 (pe_var (i := i) (by rw [hn.eq]; exact hi) (hn.vis i nm hv hi) h1 h2) pWA hbase hfew hline hs hplain).w ?_
  obtain ⟨w, e1, a, e2, w3, w4, w5⟩ := s.sl i _ hg
  subst e2
  have hT : tyV X.K "list" (.ref a) H := by
    cases o0 with
    | lst ds => obtain ⟨vs, q1, _⟩ := w3; exact .inl ⟨rfl, _, .inl (.inl q1)⟩
    | sto => obtain ⟨_, _, _, _, _, _, _, vs, q1, _⟩ := w3; exact .inl ⟨rfl, _, .inl (.inl q1)⟩
    | dic ds => cases hL
  refine ⟨_, e1, hT, h.run hn σ R H s _ fun vs R' H' ks Γ' s' e' r' ⟨as, ds, hd, hg', hp⟩ => ?_⟩
  obtain ⟨w', u1, b, u2, ⟨us, u3, u6⟩, u4, u5⟩ := s'.sl i _ hg'
  rw [e1] at u1; cases u1; cases u2
  refine m2 R' H' a ds us as vs _ u3 u6 (dats_ok r' hd) hp Q fun u us' z zs hz hu hP => ?_
  exact q u R' _ z _ (s'.mut (ob' := .lst zs) i hg' e1 ⟨us', upd_same, hz⟩) e' hu hP
end
end DL

end
section
set_option Elab.async false
set_option linter.all false
set_option autoImplicit true
set_option maxRecDepth 100000
set_option maxHeartbeats 400000
namespace DL
open PySem L2
open PyProof.Rows hiding St

section
variable {X : Cx} {n : Nm} {c : Cc} {Γ : SL} {e a b : Expr} {x y z : D} {pos p : Pos} {nm : Str} {es : List Expr} {k l : AK} {ks : List AK} {xs : List D} {st : Stmt} {rest : List Stmt} {De : DE}
variable {id : String} {P : List D → List D → (D → List D → Prop) → Prop} {meth : Str} {ap : Pos}
theorem we_meth0 (i : Nat) {Post : D → SL → Prop} {ds : List D} (hm : DMt X id P) (pa : PlainAttrs "list") (slot : PySem.Slot "list" meth id) (hty : typeOf (.builtin id) = pure (.type "method_descriptor"))
    (h : P ds [] fun z zs => Post z (Γ.set i (.own (.lst zs)))) (hg : Γ[i]? = some (.own (.lst ds)) := by rfl) (hi : n.N[i]? = some nm := by rfl) (hv : n.V.contains i = true := by rfl)
    (hbase : attributeBase (.Name nm p) meth X.env (eval (.Name nm p) X.env) = eval (.Name nm p) X.env := by rfl) (hline : (ap.endLine == pos.line) = true := by rfl) : WE X n c Γ (.Call (.Attribute (.Name nm p) meth ap) [] [] pos) Post := .mk fun hn σ R H s Q q => by
  obtain ⟨h1, h2⟩ := hn.dbg i nm hi
  obtain ⟨r, m1, m2⟩ := hm
  refine (pe_bm0 pa slot hty m1 (pe_var (i := i) (by rw [hn.eq]; exact hi) (hn.vis i nm hv hi) h1 h2) hbase hline).w ?_
  obtain ⟨w, e1, a, e2, ⟨us, u3, u6⟩, w4, w5⟩ := s.sl i _ hg
  subst e2
  refine ⟨_, e1, .inl ⟨rfl, _, .inl (.inl u3)⟩, ?_⟩
  refine m2 R H a ds us [] [] _ u3 u6 rfl h Q fun u us' z zs hz hu hP => ?_
  exact q u R _ z _ (s.mut (ob' := .lst zs) i hg e1 ⟨us', upd_same, hz⟩) (Ex.refl _) hu hP
/-- xs[i] = e -/
theorem ws_setIx (i : Nat) {tpos : Pos} (h : WE X n c Γ e fun x Γ1 => WE X n c Γ1 b fun y Γ2 => ∃ ds j m, Γ2[i]? = some (.own (.lst ds)) ∧ y = .int j ∧ ixN ds.length j = some m ∧ De.nx (Γ2.set i (.own (.lst (ds.set m x)))))
    {s0 : Slot} (hi : n.N[i]? = some nm := by rfl) (hv : n.V.contains i = true := by rfl) (hg : Γ[i]? = some s0 := by rfl) (hss : s0.isOwn = true := by rfl)
    (ha : ∀ v, assign (.Subscript (.Name nm p) b tpos) X.env v = (do
      let ov ← holding [v] (eval (.Name nm p) X.env)
      let iv ← holding [v, ov] (eval b X.env)
      standAt tpos
      holding [v, ov, iv] (setItem ov iv v)
      release [v, ov, iv] []) := by intro _; rfl) (hs : swapsWithSole [.Subscript (.Name nm p) b tpos] e pos.line X.env = pure false := by rfl) (hw : swappedStores [.Subscript (.Name nm p) b tpos] e X.env = pure none := by rfl)
    (h1 : (assignEach [.Subscript (.Name nm p) b tpos] X.env).map (·.2) = [assign (.Subscript (.Name nm p) b tpos) X.env] := by rfl) :
    WS X n c Γ (.Assign [.Subscript (.Name nm p) b tpos] e pos) De := .mk fun hn σ R H s E ok => by
  obtain ⟨d1, d2⟩ := hn.dbg i nm hi
  refine (ps_asg pW (pg_sub (pe_var (i := i) (by rw [hn.eq]; exact hi) (hn.vis i nm hv hi) d1 d2) pW set_list ha) hs hw h1).w (h.run hn σ R H s _ fun v R1 H1 x Γ1 s1 e1 r1 p1 => ?_)
  obtain ⟨w, w1, w2⟩ := s.sl i _ hg
  have ⟨a0, hw0⟩ : ∃ a, w = some (.ref a) := by
    cases s0 with
    | own o => obtain ⟨a, q, _⟩ := w2; exact ⟨a, q⟩
    | _ => cases hss
  subst hw0
  refine ⟨_, w1, p1.run hn σ R1 H1 s1 _ fun u R2 H2 y Γ2 s2 e2 r2 ⟨ds, j, m, q1, q2, q3, q4⟩ => ?_⟩
  subst q2
  obtain ⟨w', u1, a1, u2, ⟨us, u3, u6⟩, u4, u5⟩ := s2.sl i _ q1
  rw [w1] at u1; cases u1; cases u2
  refine ⟨_, us, j, m, rfl, r2, u3, by rw [← u6.length]; exact q3, ok.nx σ R2 _ _ (s2.mut (ob' := .lst (ds.set m x)) i q1 w1 ⟨_, upd_same, u6.set m (Rp.mono e2 _ _ r1)⟩) (e1.trans e2) q4⟩
/-- name += e, -= -/
theorem ws_aug (i : Nat) {op : Operator} {f : Int → Int → Int} {i0 : Int} (ho : PIp X op (ipI f)) (h : WE X n c Γ e fun y Γ' => ∃ j, y = .int j ∧ De.nx (Γ'.set i (.d (.int (f i0 j))))) (hg : Γ[i]? = some (.d (.int i0)) := by rfl) (hi : n.N[i]? = some nm := by rfl) (ha : n.as.contains i = true := by rfl) (hoi : n.oi.contains i = false := by rfl) :
    WS X n c Γ (.AugAssign (.Name nm p) op e pos) De := .mk fun hn σ R H s E ok => by
  obtain ⟨l1, l2⟩ := hn.loc i nm ha hi
  obtain ⟨w, e1, v, e2, r⟩ := s.sl i _ hg
  subst e2
  cases (show v = .int i0 from r)
  exact (ps_aug (by rw [hn.eq]; exact hn.nd) (by rw [hn.eq]; exact hi) l1 pW ho l2).w ⟨_, e1, h.run hn σ R H s _ fun u R' H' y Γ' s' e' r' ⟨j, q1, q2⟩ => by
    subst q1
    cases (show u = .int j from r')
    exact ⟨i0, j, rfl, rfl, ok.nx _ R' H' _ (s'.setD i (x := .int (f i0 j)) rfl (hn.noi hoi)) e' q2⟩⟩
/-! ### what a slot owns is kept for good -/
theorem wb_frz (i : Nat) {sts : List Stmt} {o : OB} {x : D} (h : WB X n c (Γ.set i (.d x)) sts De) (hg : Γ[i]? = some (.own o) := by rfl) (hx : o.data = some x := by rfl) (hoi : n.oi.contains i = false := by rfl) : WB X n c Γ sts De := .mk fun hn σ R H s E ok => by
  obtain ⟨w, e1, a, e2, w3, w4, w5⟩ := s.sl i _ hg
  subst e2
  have hl : i < Γ.length := (List.getElem?_eq_some_iff.mp hg).1
  have es : ∀ v, σ[i]? = some (some v) → σ.set i (some v) = σ := fun v ev => by
    apply List.ext_getElem?
    intro j
    by_cases hj : i = j
    · subst hj; rw [List.getElem?_set_self (by rw [← s.len]; exact hl), ev]
    · rw [List.getElem?_set_ne hj]
  have s2 : SOk X.K c (Γ.set i .any) (σ.set i (some (.ref a))) R H := s.set i (v := some (.ref a)) rfl trivial (hn.noi hoi)
  rw [es _ e1] at s2
  obtain ⟨R', s3, e3, r3⟩ := s2.freezeR (o := o) (v := .ref a) ⟨a, rfl, w3, w4, by
    rcases w5 with w5 | w5
    · exact w5
    · obtain ⟨j, hj⟩ := hn.cm a w5
      obtain ⟨z1, o', z2⟩ := s.oi _ hj
      have := s.dj i j a o o' hg z2 e1 z1
      exact absurd (by rw [this]; exact List.mem_map_of_mem hj) (hn.noi hoi), fun j o' z1 z2 => by
    by_cases hj : i = j
    · subst hj; rw [List.getElem?_set_self hl] at z1; cases z1
    · rw [List.getElem?_set_ne hj] at z1
      exact hj (s.dj i j a o o' hg z1 e1 z2)⟩ hx
  have s4 := s3.setD i r3 (hn.noi hoi)
  rw [es _ e1, List.set_set] at s4
  exact h.run hn σ R' H s4 E (ok.mono e3)
/-! ### loops -/
/-- what a body is to reach: the next turn, the loop's end, a return -/
def turnE (De : DE) (N : SL → Prop) : DE := { nx := N, rt := De.rt, bk := De.nx, ct := N }
theorem turnE_ok {K : PySem.W.Frag} {R R1 : Hp} {E : Ends} {Nv : SL → Prop} {Pv : St → Hp → Prop} (ok : EndsOk K c R De E) (e : Ex R R1) (hP : ∀ σ R' H Γ, SOk K c Γ σ R' H → Ex R1 R' → Nv Γ → Pv σ H) :
    EndsOk K c R1 (turnE De Nv) { E with nx := Pv, ct := Pv, bk := E.nx } :=
  ⟨fun σ R' H Γ s e' w => hP σ R' H Γ s e' w, fun v σ R' H Γ r s e' => ok.rt v σ R' H Γ r s (e.trans e'), fun σ R' H Γ s e' w => ok.nx σ R' H Γ s (e.trans e') w, fun σ R' H Γ s e' w => hP σ R' H Γ s e' w⟩
theorem ws_forL (j : Nat) {body : List Stmt} {tp : Pos} (Inv : Nat → SL → Prop) (ds : List D) (h : WE X n c Γ e fun x Γ1 => x = .lst ds ∧ Inv 0 Γ1)
    (hs : ∀ i Γ' d, ds[i]? = some d → Inv i Γ' → WB X n c (Γ'.set j (.d d)) body (turnE De (Inv (i + 1)))) (hd : ∀ Γ', Inv ds.length Γ' → De.nx Γ') (hj : n.N[j]? = some nm := by rfl) (ha : n.as.contains j = true := by rfl) (hoi : n.oi.contains j = false := by rfl)
    (hf : ∀ x, foldedSetIterable e X.env x = pure x := by intro _; rfl) : WS X n c Γ (.For (.Name nm tp) e body [] pos) De := .mk fun hn σ R H s E ok => by
  obtain ⟨l1, l2⟩ := hn.loc j nm ha hj
  refine (ps_for hn.po hn.calm (pi_list pW) (pg_name (by rw [hn.eq]; exact hn.nd) (by rw [hn.eq]; exact hj) l1 l2) pWB hf).w (h.run hn σ R H s _ fun v R1 H1 x Γ1 s1 e1 r1 ⟨hx, p1⟩ => ?_)
  subst hx
  obtain ⟨a, vs, rfl, ha', hr⟩ := r1
  refine ⟨a, rfl, ⟨vs, .inl (.inl (s1.rh a _ ha'))⟩, for_list (xs := vs) (fun i σ' H' => ∃ R' Γ', SOk X.K c Γ' σ' R' H' ∧ Ex R1 R' ∧ Inv i Γ') ⟨R1, Γ1, s1, Ex.refl _, p1⟩ (fun i σ' H' _ ⟨R', Γ', s', e', _⟩ => .inl (.inl (s'.rh a _ (e' a _ ha')))) (fun i v σ' H' hi ⟨R', Γ', s', e', p'⟩ => ?_) (fun σ' H' ⟨R', Γ', s', e', p'⟩ => ?_)⟩
  · obtain ⟨d, hd1, hd2⟩ := hr.get' hi
    exact (hs i Γ' d hd1 p').run hn _ R' H' (s'.setD j (Rp.mono e' _ _ hd2) (hn.noi hoi)) _ (turnE_ok ok (e1.trans e') fun σ2 R2 H2 Γ2 s2 e2 w => ⟨R2, Γ2, s2, e'.trans e2, w⟩)
  · rw [← hr.length] at p'
    exact ok.nx σ' R' H' Γ' s' (e1.trans e') (hd Γ' p')
theorem ws_forT (j : Nat) {body : List Stmt} {tp : Pos} (Inv : Nat → SL → Prop) (ds : List D) (h : WE X n c Γ e fun x Γ1 => x = .tup ds ∧ Inv 0 Γ1)
    (hs : ∀ i Γ' d, ds[i]? = some d → Inv i Γ' → WB X n c (Γ'.set j (.d d)) body (turnE De (Inv (i + 1)))) (hd : ∀ Γ', Inv ds.length Γ' → De.nx Γ') (hj : n.N[j]? = some nm := by rfl) (ha : n.as.contains j = true := by rfl) (hoi : n.oi.contains j = false := by rfl)
    (hf : ∀ x, foldedSetIterable e X.env x = pure x := by intro _; rfl) : WS X n c Γ (.For (.Name nm tp) e body [] pos) De := .mk fun hn σ R H s E ok => by
  obtain ⟨l1, l2⟩ := hn.loc j nm ha hj
  refine (ps_for hn.po hn.calm (pi_tup pW) (pg_name (by rw [hn.eq]; exact hn.nd) (by rw [hn.eq]; exact hj) l1 l2) pWB hf).w (h.run hn σ R H s _ fun v R1 H1 x Γ1 s1 e1 r1 ⟨hx, p1⟩ => ?_)
  subst hx
  obtain ⟨a, vs, rfl, ha', hr⟩ := r1
  refine ⟨a, rfl, ⟨vs, ex_t s1.rh ha'⟩, for_tup (xs := vs) (fun i σ' H' => ∃ R' Γ', SOk X.K c Γ' σ' R' H' ∧ Ex R1 R' ∧ Inv i Γ') ⟨R1, Γ1, s1, Ex.refl _, p1⟩ (fun i σ' H' _ ⟨R', Γ', s', e', _⟩ => ex_t s'.rh (ex_t e' ha')) (fun i v σ' H' hi ⟨R', Γ', s', e', p'⟩ => ?_) (fun σ' H' ⟨R', Γ', s', e', p'⟩ => ?_)⟩
  · obtain ⟨d, hd1, hd2⟩ := hr.get' hi
    exact (hs i Γ' d hd1 p').run hn _ R' H' (s'.setD j (Rp.mono e' _ _ hd2) (hn.noi hoi)) _ (turnE_ok ok (e1.trans e') fun σ2 R2 H2 Γ2 s2 e2 w => ⟨R2, Γ2, s2, e'.trans e2, w⟩)
  · rw [← hr.length] at p'
    exact ok.nx σ' R' H' Γ' s' (e1.trans e') (hd Γ' p')
/-- over a parameter that is only read -/
theorem ws_forW (i0 : Nat) (j : Nat) {body : List Stmt} {tp : Pos} {nm0 : Str} (Inv : Nat → SL → Prop) (ds : List D) (hg : Γ[i0]? = some (.w (.lst ds))) (h : Inv 0 Γ)
    (hs : ∀ i Γ' d, ds[i]? = some d → Inv i Γ' → WB X n c (Γ'.set j (.d d)) body (turnE De (Inv (i + 1)))) (hd : ∀ Γ', Inv ds.length Γ' → De.nx Γ') (hi : n.N[i0]? = some nm0 := by rfl) (hv : n.V.contains i0 = true := by rfl) (hj : n.N[j]? = some nm := by rfl) (ha : n.as.contains j = true := by rfl) (hoi : n.oi.contains j = false := by rfl)
    (hf : ∀ x, foldedSetIterable (.Name nm0 p) X.env x = pure x := by intro _; rfl) : WS X n c Γ (.For (.Name nm tp) (.Name nm0 p) body [] pos) De := .mk fun hn σ R H s E ok => by
  obtain ⟨l1, l2⟩ := hn.loc j nm ha hj
  obtain ⟨d1, d2⟩ := hn.dbg i0 nm0 hi
  refine (ps_for hn.po hn.calm (pi_list (pe_var (i := i0) (by rw [hn.eq]; exact hi) (hn.vis i0 nm0 hv hi) d1 d2)) (pg_name (by rw [hn.eq]; exact hn.nd) (by rw [hn.eq]; exact hj) l1 l2) pWB hf).w ?_
  obtain ⟨w, w1, v, w2, w3⟩ := s.sl i0 _ hg
  subst w2
  have ⟨a, vs, ev, st, hr⟩ : ∃ a vs, v = .ref a ∧ (∀ R' H' Γ' σ', SOk X.K c Γ' σ' R' H' → Ex R R' → H' a = some (.lst vs)) ∧ RpL X.K R ds vs := by
    rcases w3 with ⟨a, vs, h1, h2, h3⟩ | ⟨a, vs, es, h1, h2, h3, h4, h5⟩ | ⟨a, vs, es, h1, h2, _⟩
    · exact ⟨a, vs, h1, fun R' H' Γ' σ' s' e' => s'.rh a _ (e' a _ h2), h3⟩
    · cases h2
      refine ⟨a, vs, h1, fun R' H' Γ' σ' s' e' => ?_, h5⟩
      cases z : c.H0 a with
      | none => exact absurd (.inl z) h3
      | some u =>
        have q1 := s.hm a u (fun m => h3 (.inr m)) z
        have q2 := s'.hm a u (fun m => h3 (.inr m)) z
        rw [q1] at h4; cases h4; exact q2
    · cases h2
  subst ev
  refine ⟨_, w1, a, rfl, ⟨vs, .inl (.inl (st R H Γ σ s (Ex.refl _)))⟩, for_list (xs := vs) (fun i σ' H' => ∃ R' Γ', SOk X.K c Γ' σ' R' H' ∧ Ex R R' ∧ Inv i Γ') ⟨R, Γ, s, Ex.refl _, h⟩ (fun i σ' H' _ ⟨R', Γ', s', e', _⟩ => .inl (.inl (st R' H' Γ' σ' s' e'))) (fun i v σ' H' hi ⟨R', Γ', s', e', p'⟩ => ?_) (fun σ' H' ⟨R', Γ', s', e', p'⟩ => ?_)⟩
  · obtain ⟨d, hd1, hd2⟩ := hr.get' hi
    exact (hs i Γ' d hd1 p').run hn _ R' H' (s'.setD j (Rp.mono e' _ _ hd2) (hn.noi hoi)) _ (turnE_ok ok e' fun σ2 R2 H2 Γ2 s2 e2 w => ⟨R2, Γ2, s2, e'.trans e2, w⟩)
  · rw [← hr.length] at p'
    exact ok.nx σ' R' H' Γ' s' e' (hd Γ' p')
theorem ws_forR1 (j : Nat) {body : List Stmt} {tp p2 : Pos} (Inv : Nat → SL → Prop) (m : Nat) (hb : Blt X "range" (.type "range")) (jr : Nat) (h : WE X n c Γ a fun x Γ1 => ∃ i : Int, x = .int i ∧ i.toNat = m ∧ i < 2 ^ 62 ∧ -(2 ^ 62) ≤ i ∧ Inv 0 Γ1)
    (hs : ∀ i Γ', i < m → Inv i Γ' → WB X n c (Γ'.set j (.d (.int (i : Int)))) body (turnE De (Inv (i + 1)))) (hd : ∀ Γ', Inv m Γ' → De.nx Γ') (hjr : n.GN[jr]? = some ("range" : Str) := by rfl) (hj : n.N[j]? = some nm := by rfl) (ha : n.as.contains j = true := by rfl) (hoi : n.oi.contains j = false := by rfl)
    (hst : starEach [a] X.env = [(false, eval a X.env)] := by exact se_1 rfl) (hf : ∀ x, foldedSetIterable (.Call (.Name "range" p) [a] [] p2) X.env x = pure x := by intro _; rfl) : WS X n c Γ (.For (.Name nm tp) (.Call (.Name "range" p) [a] [] p2) body [] pos) De := .mk fun hn σ R H s E ok => by
  obtain ⟨l1, l2⟩ := hn.loc j nm ha hj
  obtain ⟨g1, g2, g3⟩ := hn.gl jr _ hjr
  refine (ps_for hn.po hn.calm (pi_range1 g1 hb.mg (pa_cons pW pa_nil hst) hst) (pg_name (by rw [hn.eq]; exact hn.nd) (by rw [hn.eq]; exact hj) l1 l2) pWB hf).w (h.run hn σ R H s _ fun v R1 H1 x Γ1 s1 e1 r1 ⟨i, hx, h1, h2, h3, p1⟩ => ?_)
  subst hx
  cases (show v = .int i from r1)
  refine ⟨i, rfl, h3, h2, ?_⟩
  rw [h1]
  refine for_range (lo := 0) (n := m) (fun i σ' H' => ∃ R' Γ', SOk X.K c Γ' σ' R' H' ∧ Ex R1 R' ∧ Inv i Γ') ⟨R1, Γ1, s1, Ex.refl _, p1⟩ (fun i σ' H' hi ⟨R', Γ', s', e', p'⟩ => ?_) (fun σ' H' ⟨R', Γ', s', e', p'⟩ => ok.nx σ' R' H' Γ' s' (e1.trans e') (hd Γ' p'))
  have e0 : (0 : Int) + (i : Int) = (i : Int) := Int.zero_add _
  rw [e0]
  exact (hs i Γ' hi p').run hn _ R' H' (s'.setD j (x := .int (i : Int)) rfl (hn.noi hoi)) _ (turnE_ok ok (e1.trans e') fun σ2 R2 H2 Γ2 s2 e2 w => ⟨R2, Γ2, s2, e'.trans e2, w⟩)
theorem ws_forR2 (j : Nat) {body : List Stmt} {tp p2 : Pos} (Inv : Nat → SL → Prop) (lo hi : Int) (hb : Blt X "range" (.type "range")) (jr : Nat) (h1 : EV X n c Γ a (.int lo)) (h2 : EV X n c Γ b (.int hi)) (hz : (-(2 ^ 62) ≤ lo ∧ lo < 2 ^ 62 ∧ -(2 ^ 62) ≤ hi ∧ hi < 2 ^ 62)) (h : Inv 0 Γ)
    (hs : ∀ (i : Nat) Γ', lo + (i : Int) < hi → Inv i Γ' → WB X n c (Γ'.set j (.d (.int (lo + (i : Int))))) body (turnE De (Inv (i + 1)))) (hd : ∀ Γ', Inv (hi - lo).toNat Γ' → De.nx Γ') (hjr : n.GN[jr]? = some ("range" : Str) := by rfl) (hj : n.N[j]? = some nm := by rfl) (ha : n.as.contains j = true := by rfl) (hoi : n.oi.contains j = false := by rfl)
    (hst : starEach [a, b] X.env = [(false, eval a X.env), (false, eval b X.env)] := by exact se_2 rfl rfl) (hst2 : starEach [b] X.env = [(false, eval b X.env)] := by exact se_1 rfl) (hf : ∀ x, foldedSetIterable (.Call (.Name "range" p) [a, b] [] p2) X.env x = pure x := by intro _; rfl) : WS X n c Γ (.For (.Name nm tp) (.Call (.Name "range" p) [a, b] [] p2) body [] pos) De := .mk fun hn σ R H s E ok => by
  obtain ⟨l1, l2⟩ := hn.loc j nm ha hj
  obtain ⟨g1, g2, g3⟩ := hn.gl jr _ hjr
  refine (ps_for hn.po hn.calm (pi_range2 g1 hb.mg (pa_cons pW (pa_cons pW pa_nil hst2) (by rw [hst, hst2])) hst hst2) (pg_name (by rw [hn.eq]; exact hn.nd) (by rw [hn.eq]; exact hj) l1 l2) pWB hf).w (h1.run hn σ R H s _ fun v R1 H1 x Γ1 s1 e1 r1 ⟨q1, q2⟩ => ?_)
  rw [q1] at r1; rw [q2] at s1
  refine h2.run hn σ R1 H1 s1 _ fun w R2 H2 y Γ2 s2 e2 r2 ⟨q3, q4⟩ => ?_
  rw [q3] at r2; rw [q4] at s2
  cases (show v = .int lo from r1)
  cases (show w = .int hi from r2)
  refine ⟨lo, hi, rfl, hz, for_range (lo := lo) (n := (hi - lo).toNat) (fun i σ' H' => ∃ R' Γ', SOk X.K c Γ' σ' R' H' ∧ Ex R2 R' ∧ Inv i Γ') ⟨R2, Γ, s2, Ex.refl _, h⟩ (fun i σ' H' hi' ⟨R', Γ', s', e', p'⟩ => ?_) (fun σ' H' ⟨R', Γ', s', e', p'⟩ => ok.nx σ' R' H' Γ' s' ((e1.trans e2).trans e') (hd Γ' p'))⟩
  exact (hs i Γ' (by omega) p').run hn _ R' H' (s'.setD j (x := .int (lo + (i : Int))) rfl (hn.noi hoi)) _ (turnE_ok ok ((e1.trans e2).trans e') fun σ2 R2 H2 Γ2 s2 e2 w => ⟨R2, Γ2, s2, e'.trans e2, w⟩)
theorem ws_while {t : Expr} {body : List Stmt} (Inv : Nat → SL → Prop) (m0 : Nat) (h0 : Inv m0 Γ)
    (hs : ∀ m Γ', Inv m Γ' → WT X n c Γ' t fun q Γ2 => (q = true → WB X n c Γ2 body (turnE De fun Γ3 => ∃ m', m' < m ∧ Inv m' Γ3)) ∧ (q = false → De.nx Γ2)) : WS X n c Γ (.While t body [] pos) De := .mk fun hn σ R H s E ok =>
  (ps_while hn.po pWT pWB).w ⟨fun m σ' H' => ∃ R' Γ', SOk X.K c Γ' σ' R' H' ∧ Ex R R' ∧ Inv m Γ', ⟨m0, R, Γ, s, Ex.refl _, h0⟩, fun m σ' H' ⟨R', Γ', s', e', p'⟩ =>
    (hs m Γ' p').run hn σ' R' H' s' _ fun R2 H2 q Γ2 s2 e2 ⟨p1, p2⟩ => by
      cases q with
      | true =>
        show ∃ N : St → Hp → Prop, _
        exact ⟨_, fun _ _ w => w, (p1 rfl).run hn σ' R2 H2 s2 _ (turnE_ok ok (e'.trans e2) fun σ3 R3 H3 Γ3 s3 e3 ⟨m', hm, w⟩ => ⟨m', hm, R3, Γ3, s3, (e'.trans e2).trans e3, w⟩)⟩
      | false =>
        show E.nx σ' H2
        exact ok.nx σ' R2 H2 Γ2 s2 (e'.trans e2) (p2 rfl)⟩
/-! ### the store, opened -/
theorem wb_open (i : Nat) {sts : List Stmt} (hg : Γ[i]? = some (.own .sto)) (h : ∀ ns place great st left cnt, StoreB ns place great st left cnt → WB X n c (Γ.set i (.own (.lst (stoD ns place great st left cnt)))) sts De) : WB X n c Γ sts De := .mk fun hn σ R H s E ok => by
  obtain ⟨w, e1, a, e2, ⟨ns, place, great, st, left, cnt, hB, vs, h1, h2⟩, w4, w5⟩ := s.sl i _ hg
  subst e2
  have s2 := s.mut (ob' := .lst (stoD ns place great st left cnt)) (o := .lst vs) i hg e1 ⟨vs, upd_same, h2⟩
  have e : upd H a (.lst vs) = H := by
    funext b
    by_cases hb : b = a
    · subst hb; rw [upd_same, h1]
    · rw [upd_ne hb]
  rw [e] at s2
  exact (h ns place great st left cnt hB).run hn σ R H s2 E ok
end
/-- what is lent may be told as a store again -/
def OB.le : OB → OB → Prop := fun o o' => o = o' ∨ (o' = .sto ∧ ∃ ns place great st left cnt, o = .lst (stoD ns place great st left cnt) ∧ StoreB ns place great st left cnt)
theorem OB.le.ok {K : PySem.W.Frag} {R H : Hp} {a : Addr} {o o' : OB} (h : o.le o') (k : OBOk K R H a o) : OBOk K R H a o' := by
  rcases h with rfl | ⟨rfl, ns, p, g, st, l, n, rfl, hB⟩
  · exact k
  · obtain ⟨vs, h1, h2⟩ := k
    exact ⟨ns, p, g, st, l, n, hB, vs, h1, h2⟩

/-! ### a def -/
def Par.slot : Par → Slot
  | .d x => .d x
  | .w x => .w x
  | .own o => .own o
  | .sc ns => .sc ns
def parOi : Nat → List Par → List Nat
  | _, [] => []
  | i, .own _ :: ps => i :: parOi (i + 1) ps
  | i, _ :: ps => parOi (i + 1) ps
/-- what is lent, at the end: the slots' things as they are told back -/
def Backs (Γ : SL) : List Nat → List OB → Prop
  | [], os => os = []
  | i :: is, os => ∃ o o' os', os = o' :: os' ∧ Γ[i]? = some (.own o) ∧ o.le o' ∧ Backs Γ is os'
/-- a return value may be told as a store, too -/
def Res.le : Res → Res → Prop
  | .own o, .own o' => o.le o'
  | r, r' => r = r'
def fnD (oi : List Nat) (Post : Res → List OB → Prop) : DE where
  nx := fun Γ => ∃ os, Backs Γ oi os ∧ Post (.d .non) os
  rt := fun r Γ => ∃ r' os, r.le r' ∧ Backs Γ oi os ∧ Post r' os

theorem OwnsOk.of {K : PySem.W.Frag} {c : Cc} {Γ : SL} {σ : St} {R H : Hp} (s : SOk K c Γ σ R H) : ∀ {oi : List (Nat × Addr)} {os : List OB}, (∀ p ∈ oi, p ∈ c.oi) → Backs Γ (oi.map (·.1)) os → OwnsOk K R H (oi.map (·.2)) os
  | [], _, _, h => h
  | p :: oi, _, hs, ⟨o, o', os', e, h1, h2, h3⟩ => by
    subst e
    obtain ⟨w1, _⟩ := s.oi p (hs p List.mem_cons_self)
    obtain ⟨w, u1, a, u2, u3, _⟩ := s.sl p.1 _ h1
    rw [w1] at u1; cases u1; cases u2
    exact ⟨o', os', rfl, h2.ok u3, OwnsOk.of s (fun q hq => hs q (List.mem_cons_of_mem _ hq)) h3⟩
def oiOf : Nat → List Par → List V → List (Nat × Addr)
  | i, .own _ :: ps, v :: vs => (i, adr v) :: oiOf (i + 1) ps vs
  | i, _ :: ps, _ :: vs => oiOf (i + 1) ps vs
  | _, _, _ => []
theorem oiOf_ad : ∀ {ps : List Par} {vs : List V} {i : Nat}, (oiOf i ps vs).map (·.2) = ownAd ps vs
  | [], _, _ => by simp [oiOf, ownAd]
  | p :: ps, [], _ => by cases p <;> simp [oiOf, ownAd]
  | p :: ps, v :: vs, i => by cases p <;> simp [oiOf, ownAd, oiOf_ad]
theorem oiOf_ix {K : PySem.W.Frag} {M : Addr → Prop} {R H : Hp} : ∀ {ps : List Par} {vs : List V} {i : Nat}, ParsOk K M R H ps vs → (oiOf i ps vs).map (·.1) = parOi i ps
  | [], _, _, h => by simp [oiOf, parOi]
  | p :: ps, _, i, ⟨v, ws, e, h1, h2⟩ => by subst e; cases p <;> simp [oiOf, parOi, oiOf_ix h2]
theorem parsOk_len {K : PySem.W.Frag} {M : Addr → Prop} {R H : Hp} : ∀ {ps : List Par} {vs : List V}, ParsOk K M R H ps vs → ps.length = vs.length
  | [], _, h => by cases (show _ = _ from h); rfl
  | p :: ps, _, ⟨v, ws, e, h1, h2⟩ => by subst e; simp [parsOk_len h2]
theorem oiOf_mem {K : PySem.W.Frag} {M : Addr → Prop} {R H : Hp} : ∀ {ps : List Par} {vs : List V} {i : Nat}, ParsOk K M R H ps vs → ∀ p ∈ oiOf i ps vs, ∃ j o, p.1 = i + j ∧ ps[j]? = some (.own o) ∧ vs[j]? = some (.ref p.2) ∧ OBOk K R H p.2 o ∧ R p.2 = none
  | [], _, _, h, q, hq => by simp [oiOf] at hq
  | p :: ps, _, i, ⟨v, ws, e, h1, h2⟩, q, hq => by
    subst e
    have tl : q ∈ oiOf (i + 1) ps ws → ∃ j o, q.1 = i + j ∧ (p :: ps)[j]? = some (.own o) ∧ (v :: ws)[j]? = some (.ref q.2) ∧ OBOk K R H q.2 o ∧ R q.2 = none := fun hq => by
      obtain ⟨j, o, a, b, d, e⟩ := oiOf_mem h2 q hq
      exact ⟨j + 1, o, by omega, by simpa using b, by simpa using d, e⟩
    cases p with
    | own o =>
      rcases List.mem_cons.mp hq with rfl | hq
      · obtain ⟨a, rfl, h3, h4⟩ := h1
        exact ⟨0, o, rfl, rfl, rfl, h3, h4⟩
      · exact tl hq
    | _ => exact tl hq
theorem ownAd_mem {K : PySem.W.Frag} {M : Addr → Prop} {R H : Hp} : ∀ {ps : List Par} {vs : List V} {j : Nat} {o : OB}, ParsOk K M R H ps vs → ps[j]? = some (.own o) → ∃ a, vs[j]? = some (.ref a) ∧ a ∈ ownAd ps vs ∧ OBOk K R H a o ∧ R a = none
  | [], _, j, o, h, e => by simp at e
  | p :: ps, _, 0, o, ⟨v, ws, e, h1, h2⟩, q => by
    subst e
    have q' : p = .own o := by simpa using q
    subst q'
    obtain ⟨a, rfl, h3, h4⟩ := h1
    exact ⟨a, rfl, by simp [ownAd, adr], h3, h4⟩
  | p :: ps, _, j + 1, o, ⟨v, ws, e, h1, h2⟩, q => by
    subst e
    obtain ⟨a, h3, h4, h5⟩ := ownAd_mem (j := j) h2 (by simpa using q)
    exact ⟨a, by simpa using h3, by cases p <;> simp [ownAd, h4], h5⟩
theorem parOk_at {K : PySem.W.Frag} {M : Addr → Prop} {R H : Hp} : ∀ {ps : List Par} {vs : List V} {j : Nat} {p : Par}, ParsOk K M R H ps vs → ps[j]? = some p → ∃ v, vs[j]? = some v ∧ ParOk K M R H p v
  | [], _, j, o, h, e => by simp at e
  | p :: ps, _, 0, o, ⟨v, ws, e, h1, h2⟩, q => by
    subst e
    have q' : p = o := by simpa using q
    subst q'
    exact ⟨v, rfl, h1⟩
  | p :: ps, _, j + 1, o, ⟨v, ws, e, h1, h2⟩, q => by
    subst e
    obtain ⟨a, h3, h4⟩ := parOk_at (j := j) h2 (by simpa using q)
    exact ⟨a, by simpa using h3, h4⟩
theorem ad_inj : ∀ {ps : List Par} {vs : List V} {i j : Nat} {a : Addr} {o o' : OB}, (ownAd ps vs).Nodup → ps[i]? = some (.own o) → ps[j]? = some (.own o') → vs[i]? = some (.ref a) → vs[j]? = some (.ref a) → i = j
  | [], _, i, j, a, o, o', _, e, _, _, _ => by simp at e
  | p :: ps, [], i, j, a, o, o', _, _, _, e, _ => by simp at e
  | p :: ps, v :: vs, 0, 0, a, o, o', _, _, _, _, _ => rfl
  | p :: ps, v :: vs, 0, j + 1, a, o, o', nd, e1, e2, e3, e4 => by
    have q : p = .own o := by simpa using e1
    have q2 : v = .ref a := by simpa using e3
    subst q q2
    have : a ∈ ownAd ps vs := by
      have : ∀ {ps : List Par} {vs : List V} {j : Nat}, ps[j]? = some (.own o') → vs[j]? = some (.ref a) → a ∈ ownAd ps vs := by
        intro ps
        induction ps with
        | nil => intro vs j h; simp at h
        | cons p ps ih =>
          intro vs j h1 h2
          cases vs with
          | nil => simp at h2
          | cons v vs =>
            cases j with
            | zero =>
              have q : p = .own o' := by simpa using h1
              have q2 : v = .ref a := by simpa using h2
              subst q q2
              simp [ownAd, adr]
            | succ j =>
              have := ih (vs := vs) (j := j) (by simpa using h1) (by simpa using h2)
              cases p <;> simp [ownAd, this]
      exact this (by simpa using e2) (by simpa using e4)
    simp [ownAd, adr] at nd
    exact absurd this nd.1
  | p :: ps, v :: vs, i + 1, 0, a, o, o', nd, e1, e2, e3, e4 => by
    exact (ad_inj (ps := p :: ps) (vs := v :: vs) (i := 0) (j := i + 1) nd e2 e1 e4 e3).symm
  | p :: ps, v :: vs, i + 1, j + 1, a, o, o', nd, e1, e2, e3, e4 => by
    have nd' : (ownAd ps vs).Nodup := by
      cases p with
      | own o => exact (List.nodup_cons.mp nd).2
      | _ => exact nd
    have ij : i = j := ad_inj (ps := ps) (vs := vs) (a := a) (o := o) (o' := o') nd' (by simpa using e1) (by simpa using e2) (by simpa using e3) (by simpa using e4)
    rw [ij]
termination_by ps vs i j => (i + j, if i = 0 then 0 else 1)
/-- the slots at a def's entry -/
def entry (N : List Str) (ps : List Par) : SL := ps.map Par.slot ++ List.replicate (N.length - ps.length) .no
theorem entry_ok {K : PySem.W.Frag} {R H : Hp} {N : List Str} {ps : List Par} {vs : List V} (e : Ex R H) (h : ParsOk K (fun a => a ∈ ownAd ps vs) R H ps vs) (nd : (ownAd ps vs).Nodup) :
    SOk K ⟨R, H, fun a => a ∈ ownAd ps vs, oiOf 0 ps vs⟩ (entry N ps) (L2.start N vs) R H := by
  have hl := parsOk_len h
  have at_ : ∀ (i : Nat) (s : Slot), (entry N ps)[i]? = some s → (∃ p, ps[i]? = some p ∧ s = p.slot) ∨ (ps.length ≤ i ∧ s = .no ∧ (L2.start N vs)[i]? = some none) := fun i s q => by
    unfold entry at q
    by_cases hi : i < ps.length
    · rw [List.getElem?_append_left (by simpa using hi), List.getElem?_map] at q
      obtain ⟨p, q1, q2⟩ := Option.map_eq_some_iff.mp q
      exact .inl ⟨p, q1, q2.symm⟩
    · rw [List.getElem?_append_right (by simpa using hi), List.getElem?_replicate] at q
      split at q
      · rename_i hlt
        refine .inr ⟨by omega, (Option.some.inj q).symm, ?_⟩
        unfold L2.start
        rw [List.getElem?_append_right (by simp; omega), List.getElem?_replicate, if_pos (by simp at hlt ⊢; omega)]
      · cases q
  have st : ∀ i v, vs[i]? = some v → (L2.start N vs)[i]? = some (some v) := fun i v q => by
    unfold L2.start
    rw [List.getElem?_append_left (by have := (List.getElem?_eq_some_iff.mp q).1; simpa using this), List.getElem?_map, q]; rfl
  have own_ : ∀ (i : Nat) (o : OB), (entry N ps)[i]? = some (.own o) → ps[i]? = some (.own o) := fun i o q => by
    rcases at_ i _ q with ⟨p, q1, q2⟩ | ⟨_, q2, _⟩
    · cases p <;> cases q2; exact q1
    · cases q2
  refine ⟨e, Ex.refl _, fun _ _ _ h => h, fun _ h => h, fun _ _ h => h, by simp [entry, L2.start, hl], fun i s q => ?_, fun i j a o o' q1 q2 q3 q4 => ?_, fun p hp => ?_⟩
  · rcases at_ i s q with ⟨p, q1, q2⟩ | ⟨_, q2, q3⟩
    · obtain ⟨v, w1, w2⟩ := parOk_at h q1
      refine ⟨_, st i v w1, ?_⟩
      subst q2
      cases p with
      | d x => exact ⟨v, rfl, w2⟩
      | w x => exact ⟨v, rfl, w2.noM fun a o h1 h2 h3 => by
          rcases h3 with h3 | h3
          · have h3' : H a = none := h3; rw [h1] at h3'; cases h3'
          · exact h2 h3⟩
      | sc ns => obtain ⟨a, rfl, w3⟩ := w2; exact ⟨a, rfl, w3⟩
      | own o =>
        obtain ⟨a, z1, z2, z3, z4⟩ := ownAd_mem h q1
        rw [w1] at z1; cases z1
        exact ⟨a, rfl, z3, z4, .inr z2⟩
    · subst q2; exact ⟨none, q3, rfl⟩
  · have p1 := own_ i o q1
    have p2 := own_ j o' q2
    obtain ⟨b, z1, _⟩ := ownAd_mem h p1
    obtain ⟨b', z2, _⟩ := ownAd_mem h p2
    rw [st i _ z1] at q3; cases q3
    rw [st j _ z2] at q4; cases q4
    exact ad_inj nd p1 p2 z1 z2
  · obtain ⟨j, o, h1, h2, h3, h4, h5⟩ := oiOf_mem h p hp
    have hj : p.1 = j := by omega
    rw [hj]
    refine ⟨st j _ h3, o, ?_⟩
    unfold entry
    rw [List.getElem?_append_left (by have := (List.getElem?_eq_some_iff.mp h2).1; simpa using this), List.getElem?_map, h2]; rfl
/-- the scope of a def, as NOk wants it -/
structure ScOk (sc : Scope) (n : Nm) : Prop where
  nd : n.N.Nodup
  vis : ∀ (i : Nat) (x : Str), n.V.contains i = true → n.N[i]? = some x → sc.names.lookup x = some .local ∨ sc.names.lookup x = some .cell
  dbg : ∀ (i : Nat) (x : Str), n.N[i]? = some x → (x == ("__debug__" : Str)) = false ∧ (x == ("__classdict__" : Str)) = false
  gl : ∀ (i : Nat) (x : Str), n.GN[i]? = some x → sc.names.lookup x = some .globalImplicit ∧ (x == ("__debug__" : Str)) = false ∧ x ≠ ("__name__" : Str)
  lc : ∀ (i : Nat) (x : Str), n.lc.contains i = true → n.N[i]? = some x → sc.names.lookup x = some .local
  as : ∀ (i : Nat), n.as.contains i = true → n.V.contains i = true
def scB (sc : Scope) (n : Nm) : Bool :=
  decide n.N.Nodup && (List.range n.N.length).all (fun i => match n.N[i]? with
    | some x => (!n.V.contains i || (sc.names.lookup x == some .local || sc.names.lookup x == some .cell)) && !(x == ("__debug__" : Str)) && !(x == ("__classdict__" : Str)) && (!n.lc.contains i || sc.names.lookup x == some .local)
    | none => true) && n.GN.all (fun x => sc.names.lookup x == some .globalImplicit && !(x == ("__debug__" : Str)) && !(x == ("__name__" : Str))) && n.as.all (fun i => n.V.contains i)
theorem scOk_of {sc : Scope} {n : Nm} (h : scB sc n = true) : ScOk sc n := by
  unfold scB at h
  simp only [Bool.and_eq_true, decide_eq_true_eq, List.all_eq_true, List.mem_range] at h
  obtain ⟨⟨⟨h1, h2⟩, h3⟩, h4⟩ := h
  have at_ : ∀ (i : Nat) (x : Str), n.N[i]? = some x → ((!n.V.contains i || (sc.names.lookup x == some .local || sc.names.lookup x == some .cell)) && !(x == ("__debug__" : Str)) && !(x == ("__classdict__" : Str)) && (!n.lc.contains i || sc.names.lookup x == some .local)) = true := fun i x e => by
    have := h2 i (List.getElem?_eq_some_iff.mp e).1
    rw [e] at this; exact this
  refine ⟨h1, fun i x hv e => ?_, fun i x e => ?_, fun i x e => ?_, fun i x hv e => ?_, fun i hi => ?_⟩
  · have := at_ i x e
    simp only [Bool.and_eq_true, hv, Bool.not_true, Bool.false_or, Bool.or_eq_true, beq_iff_eq] at this
    exact this.1.1.1
  · have := at_ i x e
    simp only [Bool.and_eq_true, Bool.not_eq_true'] at this
    exact ⟨this.1.1.2, this.1.2⟩
  · have := h3 x (List.mem_of_getElem? e)
    simp only [Bool.and_eq_true, beq_iff_eq, Bool.not_eq_true'] at this
    exact ⟨this.1.1, this.1.2, by intro z; subst z; simp at this⟩
  · have := at_ i x e
    simp only [Bool.and_eq_true, hv, Bool.not_true, Bool.false_or, beq_iff_eq] at this
    exact this.2
  · rw [List.contains_iff_mem] at hi
    exact h4 i hi
/-- THE RULE: a def keeps its promise -/
theorem fn_ok {P : Program} {w : World} {K : PySem.W.Frag} {mg : Str → Option Value} {base : Heap} {x qual : Str} {st : Stmt} {f : Addr} {fd : FuncData} {qs : List Str} {n : Nm} {S : Sg} (F : Fun K x qual st f fd) (sc : FnScope n.N qs (defScope st)) (sb : ScOk (defScope st) n) (hsc : n.sc = none ∨ n.sc = some (defScope st))
    (hS : ∀ ps Post, S ps Post → ps.length = qs.length ∧ parOi 0 ps = n.oi)
    (body : ∀ (X : Cx) (c : Cc), X.prog = P ∧ X.w = w ∧ X.K = K ∧ X.mg = mg ∧ X.base = base → ∀ ps Post, S ps Post → WB X n c (entry n.N ps) (defBody st) (fnD n.oi Post)) : FnOk P w K mg base CX0 (n.k + 1) f fd qs (spOf K S) := by
  refine F.ok sc (fun vs H Q E h => ?_) (fun cdv A outer s H vs Q E hr h => ?_)
  · obtain ⟨R, ps, Post, e, hp, nd, hs, _⟩ := h
    rw [← parsOk_len hp]; exact (hS ps Post hs).1
  · obtain ⟨R, ps, Post, e, hp, nd, hs, q⟩ := h
    obtain ⟨hq1, hq2⟩ := hS ps Post hs
    refine ⟨_, pWB, ?_⟩
    refine (body _ ⟨R, H, fun a => a ∈ ownAd ps vs, oiOf 0 ps vs⟩ ⟨rfl, rfl, rfl, rfl, rfl⟩ ps Post hs).run ?_ _ R H (entry_ok e hp nd) _ ?_
    · refine ⟨rfl, sc.nd, fun i x hv hi => ?_, fun i x ha hi => ?_, sb.dbg, sb.gl, sc.kind, fun s0 e0 => ?_, rfl, hr, PassesOwn.never, sb.lc, ?_, fun a ha => ?_⟩
      · rcases sb.vis i x hv hi with h | h
        · exact .inl h
        · exact .inr (.inl h)
      · refine ⟨?_, .inl rfl⟩
        rcases sb.vis i x (sb.as i ha) hi with h | h
        · exact .inl h
        · exact .inr h
      · rcases hsc with h | h
        · rw [h] at e0; cases e0
        · rw [h] at e0; cases e0; rfl
      · rw [← hq2]; exact oiOf_ix hp
      · have ha' : a ∈ (oiOf 0 ps vs).map (·.2) := by rw [oiOf_ad]; exact ha
        obtain ⟨p, hp1, hp2⟩ := List.mem_map.mp ha'
        exact ⟨p.1, by rw [← hp2]; exact hp1⟩
    · have fin : ∀ {σ : St} {R' H' : Hp} {Γ : SL} {v : V} {r r' : Res} {os : List OB}, SOk K ⟨R, H, fun a => a ∈ ownAd ps vs, oiOf 0 ps vs⟩ Γ σ R' H' → VOk K ⟨R, H, fun a => a ∈ ownAd ps vs, oiOf 0 ps vs⟩ Γ σ R' H' r v → r.le r' → Backs Γ n.oi os → Post r' os → Q v H' :=
        fun {σ R' H' Γ v r r' os} s ro le bk po => by
          refine q v R' H' r' os ⟨s.r0, s.rh, fun a o na h => s.hm a o na h, s.pr, s.un⟩ ?_ ?_ po
          · cases r with
            | d x =>
              cases r' with
              | d y => cases (show Res.d x = Res.d y from le); exact ro
              | own o => exact absurd (show Res.d x = Res.own o from le) (by intro z; cases z)
            | own o =>
              cases r' with
              | d y => exact absurd (show Res.own o = Res.d y from le) (by intro z; cases z)
              | own o' => obtain ⟨a, h1, h2, h3, h4, _⟩ := ro; exact ⟨a, h1, OB.le.ok le h2, h3, h4⟩
          · rw [← oiOf_ad (i := 0)]
            exact OwnsOk.of s (fun _ h => h) (by rw [oiOf_ix hp, hq2]; exact bk)
      exact ⟨fun σ R' H' Γ s e' ⟨os, h1, h2⟩ => fin (v := .non) (r := .d .non) (r' := .d .non) s rfl rfl h1 h2, fun v σ R' H' Γ r s e' ro ⟨r', os, h1, h2, h3⟩ => fin s ro h1 h2 h3, fun σ R' H' Γ s e' h => h.elim, fun σ R' H' Γ s e' h => h.elim⟩
end DL

end
section
set_option Elab.async false
set_option linter.all false
set_option autoImplicit true
set_option maxRecDepth 100000
set_option maxHeartbeats 400000
namespace DL
open PySem L2
open PyProof.Rows hiding St

/-! ### comprehensions: within, lists and dicts that slots own are only read; a store may be drawn from -/
def Slot.inn : Slot → Slot
  | .own .sto => .own .sto
  | .own (.lst ds) => .w (.lst ds)
  | .own (.dic ds) => .w (.dic ds)
  | s => s
def stoAd (Γ : SL) (σ : St) (a : Addr) : Prop := ∃ i : Nat, Γ[i]? = some (.own .sto) ∧ σ[i]? = some (some (.ref a))
def Slot.isSto : Slot → Bool
  | .own .sto => true
  | _ => false
theorem isSto_eq {s : Slot} (h : s.isSto = true) : s = .own .sto := by
  cases s with
  | own o => cases o with
    | sto => rfl
    | _ => cases h
  | _ => cases h
def stoIx (Γ : SL) : List Nat := (List.range Γ.length).filter fun i => match Γ[i]? with
  | some s => s.isSto
  | none => false
def inn (Γ : SL) (σ : St) (R H : Hp) : Cc := ⟨R, H, stoAd Γ σ, (stoIx Γ).map fun i => (i, adr ((σ[i]?.bind id).getD .non))⟩
section
variable {K : PySem.W.Frag} {c : Cc} {Γ : SL} {σ : St} {R H R' H' : Hp}
theorem mem_stoIx {i : Nat} : i ∈ stoIx Γ ↔ Γ[i]? = some (.own .sto) := by
  unfold stoIx
  rw [List.mem_filter, List.mem_range]
  constructor
  · rintro ⟨h1, h2⟩
    split at h2
    · rename_i s e
      rw [e, isSto_eq h2]
    · cases h2
  · intro h
    refine ⟨(List.getElem?_eq_some_iff.mp h).1, ?_⟩
    rw [h]; rfl
theorem inn_at {i : Nat} {s : Slot} (h : (Γ.map Slot.inn)[i]? = some s) : ∃ s0, Γ[i]? = some s0 ∧ s = s0.inn := by
  rw [List.getElem?_map] at h
  obtain ⟨s0, h1, h2⟩ := Option.map_eq_some_iff.mp h
  exact ⟨s0, h1, h2.symm⟩
theorem inn_own {s0 : Slot} {o : OB} (h : s0.inn = .own o) : s0 = .own .sto ∧ o = .sto := by
  cases s0 with
  | own ob => cases ob with
    | sto => cases h; exact ⟨rfl, rfl⟩
    | lst _ => cases h
    | dic _ => cases h
  | _ => cases h
theorem SOk.enter (s : SOk K c Γ σ R H) (j : Nat) {x : D} {v : V} (hr : Rp K R x v) (hj : ∀ o, Γ[j]? ≠ some (.own o)) : SOk K (inn Γ σ R H) ((Γ.map Slot.inn).set j (.d x)) (σ.set j (some v)) R H := by
  have s1 : SOk K (inn Γ σ R H) (Γ.map Slot.inn) σ R H := by
    refine ⟨s.rh, Ex.refl _, fun _ _ _ h => h, fun _ h => h, fun _ _ h => h, by simp [s.len], fun i sl e => ?_, fun i k a o o' e1 e2 e3 e4 => ?_, fun p hp => ?_⟩
    · obtain ⟨s0, e1, e2⟩ := inn_at e
      obtain ⟨o, q1, q2⟩ := s.sl i s0 e1
      refine ⟨o, q1, ?_⟩
      subst e2
      have nsto : ∀ a, (∃ ds, s0 = .own ds ∧ ds ≠ .sto) → o = some (.ref a) → ¬ (inn Γ σ R H).M a := fun a ⟨ds, z1, z2⟩ z3 ⟨k, w1, w2⟩ => by
        subst z1 z3
        have := s.dj i k a ds .sto e1 w1 q1 w2
        subst this
        rw [e1] at w1; cases w1; exact z2 rfl
      cases s0 with
      | no => exact q2
      | any => exact q2
      | d y => exact q2
      | sc ns => exact q2
      | w y =>
        obtain ⟨u, z1, z2⟩ := q2
        refine ⟨u, z1, z2.noM fun a o' w1 w2 w3 => ?_⟩
        rcases w3 with w3 | ⟨k, w4, w5⟩
        · have w3' : H a = none := w3; rw [w3'] at w1; cases w1
        · obtain ⟨u', t1, b, t2, t3, t4, t5⟩ := s.sl k _ w4
          rw [w5] at t1; cases t1; cases t2
          exact w2 t5
      | own ob =>
        obtain ⟨a, z1, z2, z3, z4⟩ := q2
        cases ob with
        | sto => exact ⟨a, z1, z2, z3, .inr ⟨i, e1, by rw [q1, z1]⟩⟩
        | lst ds =>
          obtain ⟨vs, w1, w2⟩ := z2
          refine ⟨_, z1, .inr (.inl ⟨a, vs, ds, rfl, rfl, fun m => ?_, w1, w2⟩)⟩
          rcases m with m | m
          · have m' : H a = none := m; rw [m'] at w1; cases w1
          · exact nsto a ⟨_, rfl, by simp⟩ z1 m
        | dic ds =>
          obtain ⟨vs, w1, w2⟩ := z2
          refine ⟨_, z1, .inr (.inr ⟨a, vs, ds, rfl, rfl, fun m => ?_, w1, w2⟩)⟩
          rcases m with m | m
          · have m' : H a = none := m; rw [m'] at w1; cases w1
          · exact nsto a ⟨_, rfl, by simp⟩ z1 m
    · obtain ⟨s0, f1, f2⟩ := inn_at e1
      obtain ⟨s1, g1, g2⟩ := inn_at e2
      obtain ⟨r1, _⟩ := inn_own f2.symm
      obtain ⟨r2, _⟩ := inn_own g2.symm
      subst r1 r2
      exact s.dj i k a .sto .sto f1 g1 e3 e4
    · obtain ⟨i, hi, e⟩ := List.mem_map.mp hp
      subst e
      have h1 := mem_stoIx.mp hi
      obtain ⟨u', t1, b, t2, t3, t4, t5⟩ := s.sl i _ h1
      subst t2
      refine ⟨?_, .sto, ?_⟩
      · show σ[i]? = some (some (.ref (adr ((σ[i]?.bind id).getD .non))))
        rw [t1]; rfl
      · show (Γ.map Slot.inn)[i]? = _
        rw [List.getElem?_map, h1]; rfl
  refine s1.setD j hr fun z => ?_
  obtain ⟨p, hp, e⟩ := List.mem_map.mp z
  obtain ⟨i, hi, e'⟩ := List.mem_map.mp hp
  subst e'
  have h1 := mem_stoIx.mp hi
  have e : i = j := e
  subst e
  exact hj _ h1
theorem SOk.leave (s : SOk K c Γ σ R H) (j : Nat) {x : D} {v : Option V} (hj : ∀ o, Γ[j]? ≠ some (.own o)) (s' : SOk K (inn Γ σ R H) ((Γ.map Slot.inn).set j (.d x)) (σ.set j v) R' H') : SOk K c Γ σ R' H' := by
  have noM : ∀ a, ¬ (c.H0 a = none ∨ c.M a) → ¬ (inn Γ σ R H).M a := fun a h ⟨k, w4, w5⟩ => by
    obtain ⟨u', t1, b, t2, t3, t4, t5⟩ := s.sl k _ w4
    rw [w5] at t1; cases t1; cases t2
    exact h t5
  have un : ∀ a, H a ≠ none → R a = none → R' a = none := s'.un
  refine ⟨s'.rh, s.r0.trans s'.r0, fun a o n h => ?_, fun a h => s'.pr a (s.pr a h), fun a h1 h2 => un a (s.pr a h1) (s.un a h1 h2), s.len, fun i sl e => ?_, s.dj, s.oi⟩
  · refine s'.hm a o (noM a fun z => ?_) (s.hm a o n h)
    rcases z with z | z
    · rw [z] at h; cases h
    · exact n z
  · obtain ⟨o, q1, q2⟩ := s.sl i sl e
    refine ⟨o, q1, ?_⟩
    cases sl with
    | no => exact q2
    | any => exact q2
    | d y => obtain ⟨u, z1, z2⟩ := q2; exact ⟨u, z1, Rp.mono s'.r0 _ _ z2⟩
    | sc ns => obtain ⟨u, z1, z2⟩ := q2; exact ⟨u, z1, ex_l s'.r0 z2⟩
    | w y => obtain ⟨u, z1, z2⟩ := q2; exact ⟨u, z1, z2.mono s'.r0 fun a o h1 h2 => s'.hm a o (noM a h1) h2⟩
    | own ob =>
      obtain ⟨a, z1, z2, z3, z4⟩ := q2
      refine ⟨a, z1, ?_, un a z2.there z3, z4⟩
      have keep : ob ≠ .sto → ∀ o, H a = some o → H' a = some o := fun hne o ho => s'.hm a o (fun ⟨k, w4, w5⟩ => by
        subst z1
        have := s.dj i k a ob .sto e w4 q1 w5
        subst this
        rw [e] at w4; cases w4; exact hne rfl) ho
      cases ob with
      | lst ds => exact z2.mono s'.r0 (keep (by simp))
      | dic ds => exact z2.mono s'.r0 (keep (by simp))
      | sto =>
        have hij : j ≠ i := fun z => hj _ (z ▸ e)
        obtain ⟨u, t1, b, t2, t3, t4, t5⟩ := s'.sl i (.own .sto) (by rw [List.getElem?_set_ne hij, List.getElem?_map, e]; rfl)
        rw [List.getElem?_set_ne hij, q1] at t1
        cases t1; subst z1; cases t2
        exact t3
/-- a pending list grows -/
theorem SOk.pend (s : SOk K c Γ σ R H) {a : Addr} {ob ob' : OB} {o : HO} (h : VOk K c Γ σ R H (.own ob) (.ref a)) (h' : OBOk K R (upd H a o) a ob') : SOk K c Γ σ R (upd H a o) ∧ VOk K c Γ σ R (upd H a o) (.own ob') (.ref a) := by
  obtain ⟨b, e, h2, h3, h4, h5⟩ := h
  cases e
  refine ⟨⟨fun b u e => ?_, s.r0, fun b u n e => ?_, fun b n => ?_, s.un, s.len, fun i x e => ?_, s.dj, s.oi⟩, a, rfl, h', h3, h4, h5⟩
  · rw [upd_ne (fun z => by rw [z, h3] at e; cases e)]; exact s.rh b u e
  · rw [upd_ne (fun z => by rw [z, h4] at e; cases e)]; exact s.hm b u n e
  · by_cases z : b = a
    · subst z; rw [upd_same]; simp
    · rw [upd_ne z]; exact s.pr b n
  · obtain ⟨u, u1, u2⟩ := s.sl i x e
    refine ⟨u, u1, ?_⟩
    cases x with
    | no => exact u2
    | any => exact u2
    | d x => exact u2
    | sc ns => exact u2
    | w x => obtain ⟨v, z1, z2⟩ := u2; exact ⟨v, z1, z2.mono (Ex.refl _) fun b o nb q => by rw [upd_ne (fun z => nb (by rw [z]; exact .inl h4))]; exact q⟩
    | own o2 =>
      obtain ⟨b, z1, z2, z3, z4⟩ := u2
      refine ⟨b, z1, z2.mono (Ex.refl _) fun o q => ?_, z3, z4⟩
      rw [upd_ne (fun z => by subst z; exact h5 i o2 e (by rw [u1, z1]))]; exact q
end

/-- X' runs a comprehension's block of X -/
def BlkX (X X' : Cx) (scope : Scope) : Prop := ∃ s H C cl fp, X' = X.blk s H scope (compEnvC scope cl C X.env) fp
theorem CalF.blk {X X' : Cx} {sc : Scope} {k : Nat} {nm : Str} {S : Sg} (b : BlkX X X' sc) (h : CalF X k nm S) : CalF X' k nm S := by
  obtain ⟨s, H, C, cl, fp, rfl⟩ := b
  exact ⟨h.ex⟩
theorem Blt.blk {X X' : Cx} {sc : Scope} {nm : Str} {f : Value} (b : BlkX X X' sc) (h : Blt X nm f) : Blt X' nm f := by
  obtain ⟨s, H, C, cl, fp, rfl⟩ := b
  exact ⟨h.mg, h.bt⟩
theorem Con.blk {X X' : Cx} {sc : Scope} {nm : Str} {x : D} (b : BlkX X X' sc) (h : Con X nm x) : Con X' nm x := by
  obtain ⟨s, H, C, cl, fp, rfl⟩ := b
  exact ⟨h.ex⟩
theorem lookup_mapV {g : Str → NameKind → NameKind} : ∀ {names : List (Str × NameKind)} {x : Str}, ((names.map fun p => (p.1, g p.1 p.2)).lookup x) = (names.lookup x).map (g x)
  | [], x => rfl
  | (m, k) :: r, x => by
    have ih := @lookup_mapV g r x
    rw [List.map_cons]
    by_cases e : x = m
    · subst e; simp [List.lookup]
    · have e' : (x == m) = false := by simpa using e
      simp only [List.lookup, e']; exact ih
theorem lookup_rel {env : Env} {names : List (Str × NameKind)} {x : Str} : ((names.map fun (n, k) => if (k == NameKind.free && env.scope.kind == .function && env.kindOf n == some .cell) then (n, NameKind.cell) else (n, k)).lookup x) = (names.lookup x).map fun k => if (k == NameKind.free && env.scope.kind == .function && env.kindOf x == some .cell) then NameKind.cell else k := by
  rw [← lookup_mapV (g := fun n k => if (k == NameKind.free && env.scope.kind == .function && env.kindOf n == some .cell) then NameKind.cell else k)]
  congr 2
  funext ⟨m, k⟩
  dsimp only
  split <;> rfl
def scC (scope : Scope) (n : Nm) : Bool :=
  ((List.range n.N.length).all (fun i => match n.N[i]? with
    | some x => (!n.V.contains i || (scope.names.lookup x == some .local || scope.names.lookup x == some .cell || scope.names.lookup x == some .free)) && (!n.as.contains i || scope.names.lookup x == some .local)
    | none => true)) && n.GN.all (fun x => scope.names.lookup x == some .globalImplicit && !(x == ("__debug__" : Str)) && !(x == ("__name__" : Str)))
theorem nok_blk {X X' : Cx} {n n' : Nm} {c c' : Cc} {scope : Scope} (b : BlkX X X' scope) (hk : scope.kind = .function) (hn : NOk X n c) (h : scC scope n' = true) (e1 : n'.N = n.N) (e2 : n'.k = n.k) (e3 : n'.lc = []) (e4 : n'.sc = none) (oi : c'.oi.map (·.1) = n'.oi) (cm : ∀ a, c'.M a → ∃ j, (j, a) ∈ c'.oi) : NOk X' n' c' := by
  obtain ⟨s, H, C, cl, fp, rfl⟩ := b
  unfold scC at h
  simp only [Bool.and_eq_true, List.all_eq_true, List.mem_range] at h
  obtain ⟨h2, h3⟩ := h
  have at_ : ∀ (i : Nat) (x : Str), n'.N[i]? = some x → ((!n'.V.contains i || (scope.names.lookup x == some .local || scope.names.lookup x == some .cell || scope.names.lookup x == some .free)) && (!n'.as.contains i || scope.names.lookup x == some .local)) = true := fun i x e => by
    have := h2 i (List.getElem?_eq_some_iff.mp e).1
    rw [e] at this; exact this
  have lk : ∀ x, (compEnvC scope cl C X.env).scope.names.lookup x = (scope.names.lookup x).map fun k => if (k == NameKind.free && X.env.scope.kind == .function && X.env.kindOf x == some .cell) then NameKind.cell else k := fun x => lookup_rel
  refine ⟨hn.eq.trans e1.symm, by rw [e1]; exact hn.nd, fun i x hv e => ?_, fun i x ha e => ?_, fun i x e => hn.dbg i x (e1 ▸ e), fun i x e => ?_, hk, fun s0 z => ?_, hn.calm, by rw [e2]; exact hn.room, PassesOwn.never, fun i x hl => ?_, oi, cm⟩
  · have := at_ i x e
    simp only [Bool.and_eq_true, hv, Bool.not_true, Bool.false_or, Bool.or_eq_true, beq_iff_eq] at this
    unfold Vis
    show (compEnvC scope cl C X.env).scope.names.lookup x = _ ∨ (compEnvC scope cl C X.env).scope.names.lookup x = _ ∨ (compEnvC scope cl C X.env).scope.names.lookup x = _
    rw [lk x]
    rcases this.1 with (q | q) | q
    · rw [q]; exact .inl rfl
    · rw [q]; exact .inr (.inl rfl)
    · rw [q]
      by_cases cc : ((NameKind.free == NameKind.free) && X.env.scope.kind == .function && X.env.kindOf x == some .cell) = true
      · exact .inr (.inl (by simp only [Option.map_some, cc, if_true]))
      · exact .inr (.inr (by simp only [Option.map_some, cc]; rfl))
  · have := at_ i x e
    simp only [Bool.and_eq_true, ha, Bool.not_true, Bool.false_or, beq_iff_eq] at this
    have q : (compEnvC scope cl C X.env).scope.names.lookup x = some .local := by rw [lk x, this.2]; rfl
    exact ⟨.inl q, .inr q⟩
  · have := h3 x (List.mem_of_getElem? e)
    simp only [Bool.and_eq_true, beq_iff_eq, Bool.not_eq_true'] at this
    refine ⟨?_, this.1.2, by intro z; subst z; simp at this⟩
    show (compEnvC scope cl C X.env).scope.names.lookup x = _
    rw [lk x, this.1.1]; rfl
  · rw [e4] at z; cases z
  · rw [e3] at hl; cases hl

section
variable {X : Cx} {n : Nm} {c : Cc} {Γ : SL} {e a b : Expr} {x y z : D} {pos p p2 : Pos} {nm : Str} {k : AK} {iter elt : Expr} {scope : Scope} {n' : Nm} {ds : List D}
/-- a comprehension's tests -/
def WTs (X : Cx) (n : Nm) (c : Cc) (Γ : SL) (ifs : List Expr) (Post : Bool → SL → Prop) : Prop := match ifs with
  | [] => Post true Γ
  | [t] => WT X n c Γ t Post
  | _ => False
def tTs (X : Cx) : List Expr → TT
  | [] => tYes
  | [t] => tWT X t
  | _ => tYes
theorem pts_of {X : Cx} : ∀ {ifs : List Expr}, ifs.length ≤ 1 → PTs X ifs (tTs X ifs)
  | [], _ => pts_nil
  | [t], _ => pts_one pWT
  | _ :: _ :: _, h => by simp at h
theorem sto_cm {σ : St} {R H : Hp} : (∀ a, (inn Γ σ R H).M a → ∃ j, (j, a) ∈ (inn Γ σ R H).oi) ∧ (inn Γ σ R H).oi.map (·.1) = stoIx Γ := by
  refine ⟨fun a ⟨i, h1, h2⟩ => ⟨i, List.mem_map.mpr ⟨i, mem_stoIx.mpr h1, by rw [h2]; rfl⟩⟩, ?_⟩
  show ((stoIx Γ).map _).map _ = _
  rw [List.map_map]
  exact List.map_id _
/-- what a comprehension's block is: its scope, its names -/
structure LcOk (X : Cx) (n n' : Nm) (Γ : SL) (scope : Scope) (nm : Str) (j : Nat) : Prop where
  sc : ∃ s0, n.sc = some s0 ∧ blkC n.N s0 scope [(nm, j)] = true
  in_ : scC scope n' = true
  eN : n'.N = n.N
  ek : n'.k = n.k
  el : n'.lc = []
  es : n'.sc = none
  eo : n'.oi = stoIx Γ
  as : n'.as.contains j = true
  hj : n.N[j]? = some nm
  no : ∀ o, Γ[j]? ≠ some (.own o)
def lcT (X : Cx) (scope : Scope) (ifs : List Expr) : TT := fun σ H Q => ∀ s H0 C cl fp, tTs (X.blk s H0 scope (compEnvC scope cl C X.env) fp) ifs σ H Q
def lcE (X : Cx) (scope : Scope) (elt : Expr) : TE := fun σ H Q => ∀ s H0 C cl fp, tW (X.blk s H0 scope (compEnvC scope cl C X.env) fp) elt σ H Q
/-- the rule's parts that hang on the block alone -/
theorem lc_pe (j : Nat) {ifs : List Expr} {tp : Pos} {wi : TI} (L : LcOk X n n' Γ scope nm j) (hn : NOk X n c) (hi : PI X (.Name nm tp) iter wi) (hifs : ifs.length ≤ 1) (hs : ∀ x, foldedSetIterable iter X.env x = pure x) :
    PE X (.ListComp elt [⟨.Name nm tp, iter, ifs, 0⟩] scope pos) (tLc wi (gName j) (lcT X scope ifs) (lcE X scope elt) [j]) := by
  obtain ⟨s0, e0, hb⟩ := L.sc
  have bk : BlkOk X.N X.env.scope scope [(nm, j)] := by rw [hn.eq, hn.scp s0 e0]; exact blkOk_by hb
  have hN : X.N.Nodup := by rw [hn.eq]; exact hn.nd
  refine pe_lc (own := [(nm, j)]) hn.calm hN hi bk ?_ ?_ ?_ hs
  · intro s1 H1 C cl fp
    have := nok_blk (c' := ⟨H1, H1, fun _ => False, n'.oi.map fun i => (i, 0)⟩) ⟨s1, H1, C, cl, fp, rfl⟩ bk.kind hn L.in_ L.eN L.ek L.el L.es (by simp [List.map_map, Function.comp_def]) (fun _ h => h.elim)
    obtain ⟨l1, l2⟩ := this.loc j nm L.as (by rw [L.eN]; exact L.hj)
    exact pg_name hN (by rw [hn.eq]; exact L.hj) l1 l2
  · intro s1 H1 C cl fp
    exact ⟨fun pins s2 σ2 H2 Q2 I h => (pts_of hifs).run pins s2 σ2 H2 Q2 I (h s1 H1 C cl fp)⟩
  · intro s1 H1 C cl fp
    exact ⟨fun pins s2 σ2 H2 Q2 I h => pW.run pins s2 σ2 H2 Q2 I (h s1 H1 C cl fp)⟩
/-- .. stored to a name at once -/
theorem lc_ps (j iy : Nat) {ifs : List Expr} {tp py spos : Pos} {ny : Str} {wi : TI} (L : LcOk X n n' Γ scope nm j) (hn : NOk X n c) (hi : PI X (.Name nm tp) iter wi) (hifs : ifs.length ≤ 1) (hs : ∀ x, foldedSetIterable iter X.env x = pure x)
    (hy : n.N[iy]? = some ny) (hyl : n.lc.contains iy = true) (hln : (py.line == pos.line) = true) (hany : (scope.names.any fun (m, k) => m == ny && (k == .local || k == .cell)) = false) :
    PS X (.Assign [.Name ny py] (.ListComp elt [⟨.Name nm tp, iter, ifs, 0⟩] scope pos) spos) (tAsg (tLc wi (gName j) (lcT X scope ifs) (lcE X scope elt) [j]) (gName iy)) := by
  obtain ⟨s0, e0, hb⟩ := L.sc
  have bk : BlkOk X.N X.env.scope scope [(nm, j)] := by rw [hn.eq, hn.scp s0 e0]; exact blkOk_by hb
  have hN : X.N.Nodup := by rw [hn.eq]; exact hn.nd
  have hl := hn.lc iy ny hyl hy
  refine ps_setLc (own := [(nm, j)]) hn.calm hN (by rw [hn.eq]; exact hy) hl (sw_true hn.kind hl hln hany) hi bk ?_ ?_ ?_ hs
  · intro s1 H1 C cl fp
    have := nok_blk (c' := ⟨H1, H1, fun _ => False, n'.oi.map fun i => (i, 0)⟩) ⟨s1, H1, C, cl, fp, rfl⟩ bk.kind hn L.in_ L.eN L.ek L.el L.es (by simp [List.map_map, Function.comp_def]) (fun _ h => h.elim)
    obtain ⟨l1, l2⟩ := this.loc j nm L.as (by rw [L.eN]; exact L.hj)
    exact pg_name hN (by rw [hn.eq]; exact L.hj) l1 l2
  · intro s1 H1 C cl fp
    exact ⟨fun pins s2 σ2 H2 Q2 I h => (pts_of hifs).run pins s2 σ2 H2 Q2 I (h s1 H1 C cl fp)⟩
  · intro s1 H1 C cl fp
    exact ⟨fun pins s2 σ2 H2 Q2 I h => pW.run pins s2 σ2 H2 Q2 I (h s1 H1 C cl fp)⟩
/-- what stands between two turns -/
def LcInv (K : PySem.W.Frag) (c : Cc) (Γ : SL) (σ : St) (R1 : Hp) (Dl : Addr) (Keep : Hp → Prop) (Acc : Nat → List D → Prop) (i : Nat) (H : Hp) : Prop :=
  ∃ R acc, SOk K c Γ σ R H ∧ Ex R1 R ∧ Keep H ∧ VOk K c Γ σ R H (.own (.lst acc)) (.ref Dl) ∧ acc.length ≤ i ∧ Acc i acc
theorem lc_step (j : Nat) {ifs : List Expr} {Acc : Nat → List D → Prop} {Tst : Bool → Prop} {i : Nat} {d : D} {v : V} {σ : St} {R1 H : Hp} {Dl : Addr} {Keep : Hp → Prop} (L : LcOk X n n' Γ scope nm j) (hn : NOk X n c) (hi : i < 1000000) (hkeep : ∀ H H', (∀ b o, b ≠ Dl → ¬ stoAd Γ σ b → H b = some o → H' b = some o) → Keep H → Keep H')
    (hd : Rp X.K R1 d v) (h : LcInv X.K c Γ σ R1 Dl Keep Acc i H) (ht : ∀ X' c', BlkX X X' scope → WTs X' n' c' ((Γ.map Slot.inn).set j (.d d)) ifs fun q Γ2 => Γ2 = (Γ.map Slot.inn).set j (.d d) ∧ Tst q)
    (he : ∀ X' c', BlkX X X' scope → Tst true → ∀ acc, Acc i acc → acc.length ≤ i → WE X' n' c' ((Γ.map Slot.inn).set j (.d d)) elt fun y Γ3 => Γ3 = (Γ.map Slot.inn).set j (.d d) ∧ Acc (i + 1) (acc ++ [y]))
    (hf : Tst false → ∀ acc, Acc i acc → Acc (i + 1) acc) (hifs : ifs.length ≤ 1) :
    gName j v (wipe σ [j]) H fun σ2 H2 => wipe σ2 [j] = wipe σ [j] ∧ (lcT X scope ifs σ2 H2 fun b H3 =>
      if b = true then (lcE X scope elt σ2 H3 fun y H4 => ∃ acc, H4 Dl = some (.lst acc) ∧ acc.length < sizeLine ∧ LcInv X.K c Γ σ R1 Dl Keep Acc (i + 1) (upd H4 Dl (.lst (acc ++ [y])))) else LcInv X.K c Γ σ R1 Dl Keep Acc (i + 1) H3) := by
  obtain ⟨s0, e0, hb⟩ := L.sc
  have bk : BlkOk X.N X.env.scope scope [(nm, j)] := by rw [hn.eq, hn.scp s0 e0]; exact blkOk_by hb
  have w0 : wipe σ [j] = σ.set j none := rfl
  have w1 : (wipe σ [j]).set j (some v) = σ.set j (some v) := by rw [w0, List.set_set]
  have w2 : wipe (σ.set j (some v)) [j] = wipe σ [j] := by show (σ.set j (some v)).set j none = σ.set j none; rw [List.set_set]
  obtain ⟨R, acc, s, e1, kp, ⟨aa, ea, ⟨accV, hA1, hA2⟩, hA3, hA4, hA5⟩, hl, ha⟩ := h
  cases ea
  have nsto : ¬ stoAd Γ σ Dl := fun ⟨i, w1, w2⟩ => hA5 i _ w1 w2
  have sin := s.enter j (Rp.mono e1 _ _ hd) L.no
  obtain ⟨o1, o2⟩ := sto_cm (Γ := Γ) (σ := σ) (R := R) (H := H)
  have nk : ∀ X', BlkX X X' scope → NOk X' n' (inn Γ σ R H) := fun X' b => nok_blk b bk.kind hn L.in_ L.eN L.ek L.el L.es (o2.trans L.eo.symm) o1
  have at4 : ∀ R4 H4, SOk X.K (inn Γ σ R H) ((Γ.map Slot.inn).set j (.d d)) (σ.set j (some v)) R4 H4 → SOk X.K c Γ σ R4 H4 ∧ VOk X.K c Γ σ R4 H4 (.own (.lst acc)) (.ref Dl) ∧ H4 Dl = some (.lst accV) ∧ RpL X.K R4 acc accV ∧ Keep H4 := fun R4 H4 s4 => by
    have hD : H4 Dl = some (.lst accV) := s4.hm Dl _ nsto hA1
    have hR : RpL X.K R4 acc accV := hA2.mono s4.r0
    exact ⟨s.leave j L.no s4, ⟨Dl, rfl, ⟨accV, hD, hR⟩, s4.un Dl (by show H Dl ≠ none; rw [hA1]; simp) hA3, hA4, hA5⟩, hD, hR, hkeep H H4 (fun b o _ nb hb => s4.hm b o nb hb) kp⟩
  unfold gName
  rw [w1]
  refine ⟨w2, fun s1 H1 C cl fp => ?_⟩
  have go : ∀ (b : Bool) (R3 H3 : Hp), SOk X.K (inn Γ σ R H) ((Γ.map Slot.inn).set j (.d d)) (σ.set j (some v)) R3 H3 → Tst b →
      if b = true then (∀ s H0 C cl fp, tW (X.blk s H0 scope (compEnvC scope cl C X.env) fp) elt (σ.set j (some v)) H3 fun y H4 => ∃ acc, H4 Dl = some (.lst acc) ∧ acc.length < sizeLine ∧ LcInv X.K c Γ σ R1 Dl Keep Acc (i + 1) (upd H4 Dl (.lst (acc ++ [y])))) else LcInv X.K c Γ σ R1 Dl Keep Acc (i + 1) H3 := by
    intro b R3 H3 s3 tb
    cases b with
    | true =>
      rw [if_pos rfl]
      intro s2 H2 C2 cl2 fp2
      refine (he _ (inn Γ σ R H) ⟨s2, H2, C2, cl2, fp2, rfl⟩ tb acc ha hl).run (nk _ ⟨s2, H2, C2, cl2, fp2, rfl⟩) _ R3 H3 s3 _ fun u R4 H4 y Γ4 s4 e4 r4 ⟨g1, g2⟩ => ?_
      subst g1
      obtain ⟨v1, v2, v3, v4, v5⟩ := at4 R4 H4 s4
      refine ⟨accV, v3, by have := v4.length; rw [sizeLine_eq]; omega, ?_⟩
      obtain ⟨t1, t2⟩ := v1.pend (ob' := .lst (acc ++ [y])) (o := .lst (accV ++ [u])) v2 ⟨_, upd_same, v4.append (.one r4)⟩
      exact ⟨R4, acc ++ [y], t1, e1.trans s4.r0, hkeep H4 _ (fun b o nb _ hb => by rw [upd_ne nb]; exact hb) v5, t2, by simp; omega, g2⟩
    | false =>
      rw [if_neg Bool.false_ne_true]
      obtain ⟨v1, v2, v3, v4, v5⟩ := at4 R3 H3 s3
      exact ⟨R3, acc, v1, e1.trans s3.r0, v5, v2, by omega, hf tb acc ha⟩
  have hT := ht _ (inn Γ σ R H) ⟨s1, H1, C, cl, fp, rfl⟩
  match ifs, hifs, hT with
  | [], _, hT => exact go true R H sin hT.2
  | [t], _, hT =>
    exact (WT.run (show WT _ _ _ _ t _ from hT)) (nk _ ⟨s1, H1, C, cl, fp, rfl⟩) _ R H sin _ fun R3 H3 b Γ3 s3 e3 ⟨g1, g2⟩ => by
      subst g1
      exact go b R3 H3 s3 g2
theorem lc_fin {Acc : Nat → List D → Prop} {σ : St} {R1 H : Hp} {Dl : Addr} {Keep : Hp → Prop} {m : Nat} {Q : VK} (h : LcInv X.K c Γ σ R1 Dl Keep Acc m H) (q : ∀ v R' H' o Γ', SOk X.K c Γ' σ R' H' → Ex R1 R' → VOk X.K c Γ' σ R' H' (.own o) v → (Γ' = Γ ∧ ∃ out, o = .lst out ∧ Acc m out) → Q v H') : Q (.ref Dl) H := by
  obtain ⟨R, acc, s, e1, kp, vo, hl, ha⟩ := h
  exact q _ R H _ Γ s e1 vo ⟨rfl, acc, rfl, ha⟩
theorem lc_start {Acc : Nat → List D → Prop} {σ : St} {R H : Hp} {Dl : Addr} {Keep : Hp → Prop} (s : SOk X.K c Γ σ R H) (hD : H Dl = none) (kp : Keep (upd H Dl (.lst []))) (h0 : Acc 0 []) : LcInv X.K c Γ σ R Dl Keep Acc 0 (upd H Dl (.lst [])) :=
  ⟨R, [], s.grow (s.newOwn (.lst []) hD), Ex.refl _, kp, .fresh s hD ⟨[], upd_same, .nil⟩, Nat.le_refl _, h0⟩
/-- what is read is no store -/
theorem no_sto {K : PySem.W.Frag} {σ : St} {R H : Hp} {a : Addr} (s : SOk K c Γ σ R H) (r : AkOk K R σ k (.ref a)) (hg : k.get Γ = some (.lst ds)) : ¬ stoAd Γ σ a := fun ⟨i, w1, w2⟩ => by
  obtain ⟨u', t1, b, t2, ⟨ns, pl, gr, st, lf, ct, hB, us, t3, t4⟩, t5, t6⟩ := s.sl i _ w1
  rw [w2] at t1; cases t1; cases t2
  have frz : Rp K R (.lst ds) (.ref a) → False := fun h => by
    obtain ⟨b, ws, q1, q2, q3⟩ := h; cases q1; rw [t5] at q2; cases q2
  have slot : ∀ (i' : Nat) (sl : Slot), Γ[i']? = some sl → sl.data = some (.lst ds) → σ[i']? = some (some (.ref a)) → False := fun i' sl e1 e2 e3 => by
    obtain ⟨o, q1, q2⟩ := s.sl i' sl e1
    rw [e3] at q1; cases q1
    cases sl with
    | d y => cases e2; obtain ⟨v, z1, z2⟩ := q2; cases z1; exact frz z2
    | w y =>
      cases e2
      obtain ⟨v, z1, z2⟩ := q2; cases z1
      rcases z2 with z2 | ⟨b, vs, ds, z3, z4, z5, _⟩ | ⟨b, vs, ds, z3, z4, z5, _⟩
      · exact frz z2
      · cases z3; exact z5 t6
      · cases z3; exact z5 t6
    | own ob =>
      have := s.dj i i' a .sto ob w1 e1 w2 e3
      subst this
      rw [w1] at e1; cases e1; cases e2
    | _ => cases e2
  cases k with
  | d y => cases hg; exact frz r
  | v y => cases hg; exact frz r
  | s i' => obtain ⟨sl, e1, e2⟩ := Option.bind_eq_some_iff.mp hg; exact slot i' sl e1 e2 r
  | o i' => obtain ⟨sl, e1, e2⟩ := Option.bind_eq_some_iff.mp hg; exact slot i' sl e1 e2 r
/-- [elt for name in a list (if ..)]: Acc tells what is made so far, Tst what a test's answer tells -/
theorem rd_lcL (j : Nat) {ifs : List Expr} {Post : OB → SL → Prop} (Acc : Nat → List D → Prop) (Tst : Nat → D → Bool → Prop) (L : LcOk X n n' Γ scope nm j) (hk : EK X n c Γ iter k) (hg : k.get Γ = some (.lst ds)) (hz : ds.length ≤ 100000) (h0 : Acc 0 [])
    (ht : ∀ X' c', BlkX X X' scope → ∀ i d, ds[i]? = some d → WTs X' n' c' ((Γ.map Slot.inn).set j (.d d)) ifs fun q Γ2 => Γ2 = (Γ.map Slot.inn).set j (.d d) ∧ Tst i d q)
    (he : ∀ X' c', BlkX X X' scope → ∀ i d acc, ds[i]? = some d → Tst i d true → Acc i acc → acc.length ≤ i → WE X' n' c' ((Γ.map Slot.inn).set j (.d d)) elt fun y Γ3 => Γ3 = (Γ.map Slot.inn).set j (.d d) ∧ Acc (i + 1) (acc ++ [y]))
    (hf : ∀ i d acc, ds[i]? = some d → Tst i d false → Acc i acc → Acc (i + 1) acc) (hd : ∀ out, Acc ds.length out → Post (.lst out) Γ)
    (hifs : ifs.length ≤ 1) (hn : NOk X n c) {σ : St} {R H : Hp} (s : SOk X.K c Γ σ R H) (Q : VK)
    (q : ∀ v R' H' o Γ', SOk X.K c Γ' σ R' H' → Ex R R' → VOk X.K c Γ' σ R' H' (.own o) v → Post o Γ' → Q v H') : tLc (iList X.K (tW X iter)) (gName j) (lcT X scope ifs) (lcE X scope elt) [j] σ H Q := by
  refine hk.run hn σ R H s _ fun v R1 H1 k1 Γ1 s1 e1 r1 ⟨g1, g2⟩ => ?_
  subst g1
  rw [g2] at s1
  obtain ⟨a, vs, rfl, hA, hr⟩ := (r1.wk s1 hg).lst s1.rh
  have nst : ¬ stoAd Γ σ a := no_sto s1 r1 hg
  refine ⟨a, rfl, ⟨vs, .inl (.inl hA)⟩, fun Dl hD => ?_⟩
  have nDa : a ≠ Dl := fun z => by rw [z, hD] at hA; cases hA
  refine lc_list (K := X.K) (a := a) (xs := vs) (g := gName j) (tt := lcT X scope ifs) (te := lcE X scope elt) (vs := [j]) (σ := σ) (Qd := fun H => Q (.ref Dl) H) (LcInv X.K c Γ σ R1 Dl (fun H' => H' a = some (.lst vs)) Acc) (lc_start s1 hD (by rw [upd_ne nDa]; exact hA) h0) (fun i H' _ ⟨_, _, _, _, kp, _⟩ => .inl (.inl kp)) (fun i x H' hi h => ?_) (fun H' h => ?_)
  · obtain ⟨d, hd1, hd2⟩ := hr.get' hi
    have hlt := (List.getElem?_eq_some_iff.mp hd1).1
    exact lc_step j (Tst := Tst i d) L hn (by omega) (fun H H' k kp => k a _ nDa nst kp) hd2 h (fun X' c' b => ht X' c' b i d hd1) (fun X' c' b tb acc ha hl => he X' c' b i d acc hd1 tb ha hl) (fun tb acc ha => hf i d acc hd1 tb ha) hifs
  · rw [← hr.length] at h
    exact lc_fin h fun v R' H' o Γ' s' e' vo ⟨g1, out, g3, g4⟩ => by
      subst g1 g3
      exact q v R' H' _ _ s' (e1.trans e') vo (hd out g4)
theorem wo_lcL (j : Nat) {ifs : List Expr} {tp : Pos} {Post : OB → SL → Prop} (Acc : Nat → List D → Prop) (Tst : Nat → D → Bool → Prop) (L : LcOk X n n' Γ scope nm j) (hk : EK X n c Γ iter k) (hg : k.get Γ = some (.lst ds)) (hz : ds.length ≤ 100000) (h0 : Acc 0 [])
    (ht : ∀ X' c', BlkX X X' scope → ∀ i d, ds[i]? = some d → WTs X' n' c' ((Γ.map Slot.inn).set j (.d d)) ifs fun q Γ2 => Γ2 = (Γ.map Slot.inn).set j (.d d) ∧ Tst i d q)
    (he : ∀ X' c', BlkX X X' scope → ∀ i d acc, ds[i]? = some d → Tst i d true → Acc i acc → acc.length ≤ i → WE X' n' c' ((Γ.map Slot.inn).set j (.d d)) elt fun y Γ3 => Γ3 = (Γ.map Slot.inn).set j (.d d) ∧ Acc (i + 1) (acc ++ [y]))
    (hf : ∀ i d acc, ds[i]? = some d → Tst i d false → Acc i acc → Acc (i + 1) acc) (hd : ∀ out, Acc ds.length out → Post (.lst out) Γ)
    (hifs : ifs.length ≤ 1 := by decide) (hs : ∀ x, foldedSetIterable iter X.env x = pure x := by intro _; rfl) : WO X n c Γ (.ListComp elt [⟨.Name nm tp, iter, ifs, 0⟩] scope pos) Post := .mk fun hn σ R H s Q q => by
  exact (lc_pe j L hn (pi_list pW) hifs hs).w (rd_lcL j Acc Tst L hk hg hz h0 ht he hf hd hifs hn s Q q)
theorem ws_lcL (j : Nat) {ifs : List Expr} {tp : Pos} {De : DE} {py spos : Pos} {ny : Str} (iy : Nat) (Acc : Nat → List D → Prop) (Tst : Nat → D → Bool → Prop) (L : LcOk X n n' Γ scope nm j) (hk : EK X n c Γ iter k) (hg : k.get Γ = some (.lst ds)) (hz : ds.length ≤ 100000) (h0 : Acc 0 [])
    (ht : ∀ X' c', BlkX X X' scope → ∀ i d, ds[i]? = some d → WTs X' n' c' ((Γ.map Slot.inn).set j (.d d)) ifs fun q Γ2 => Γ2 = (Γ.map Slot.inn).set j (.d d) ∧ Tst i d q)
    (he : ∀ X' c', BlkX X X' scope → ∀ i d acc, ds[i]? = some d → Tst i d true → Acc i acc → acc.length ≤ i → WE X' n' c' ((Γ.map Slot.inn).set j (.d d)) elt fun y Γ3 => Γ3 = (Γ.map Slot.inn).set j (.d d) ∧ Acc (i + 1) (acc ++ [y]))
    (hf : ∀ i d acc, ds[i]? = some d → Tst i d false → Acc i acc → Acc (i + 1) acc) (hd : ∀ out, Acc ds.length out → De.nx (Γ.set iy (.own (.lst out))))
    (hifs : ifs.length ≤ 1 := by decide) (hs : ∀ x, foldedSetIterable iter X.env x = pure x := by intro _; rfl) 
    (hy : n.N[iy]? = some ny := by rfl) (hyl : n.lc.contains iy = true := by rfl) (hyo : n.oi.contains iy = false := by rfl) (hln : (py.line == pos.line) = true := by rfl) (hany : (scope.names.any fun (m, k) => m == ny && (k == .local || k == .cell)) = false := by decide +kernel) : WS X n c Γ (.Assign [.Name ny py] (.ListComp elt [⟨.Name nm tp, iter, ifs, 0⟩] scope pos) spos) De := .mk fun hn σ R H s E ok => by
  refine (lc_ps j iy L hn (pi_list pW) hifs hs hy hyl hln hany).w ?_
  show tLc _ _ _ _ _ σ H fun x H1 => gName iy x σ H1 E.nx
  exact rd_lcL (Post := fun o Γ' => De.nx (Γ'.set iy (.own o))) j Acc Tst L hk hg hz h0 ht he hf (fun out ho => hd out ho) hifs hn s _ fun v R' H' o Γ' s' e' vo p' => ok.nx _ R' H' _ (s'.setO iy vo (hn.noi hyo)) e' p'

/-- .. in a tuple -/
theorem rd_lcT (j : Nat) {ifs : List Expr} {Post : OB → SL → Prop} (Acc : Nat → List D → Prop) (Tst : Nat → D → Bool → Prop) (L : LcOk X n n' Γ scope nm j) (hk : EV X n c Γ iter (.tup ds)) (hz : ds.length ≤ 100000) (h0 : Acc 0 [])
    (ht : ∀ X' c', BlkX X X' scope → ∀ i d, ds[i]? = some d → WTs X' n' c' ((Γ.map Slot.inn).set j (.d d)) ifs fun q Γ2 => Γ2 = (Γ.map Slot.inn).set j (.d d) ∧ Tst i d q)
    (he : ∀ X' c', BlkX X X' scope → ∀ i d acc, ds[i]? = some d → Tst i d true → Acc i acc → acc.length ≤ i → WE X' n' c' ((Γ.map Slot.inn).set j (.d d)) elt fun y Γ3 => Γ3 = (Γ.map Slot.inn).set j (.d d) ∧ Acc (i + 1) (acc ++ [y]))
    (hf : ∀ i d acc, ds[i]? = some d → Tst i d false → Acc i acc → Acc (i + 1) acc) (hd : ∀ out, Acc ds.length out → Post (.lst out) Γ)
    (hifs : ifs.length ≤ 1) (hn : NOk X n c) {σ : St} {R H : Hp} (s : SOk X.K c Γ σ R H) (Q : VK)
    (q : ∀ v R' H' o Γ', SOk X.K c Γ' σ R' H' → Ex R R' → VOk X.K c Γ' σ R' H' (.own o) v → Post o Γ' → Q v H') : tLc (iTup X.K (tW X iter)) (gName j) (lcT X scope ifs) (lcE X scope elt) [j] σ H Q := by
  refine hk.run hn σ R H s _ fun v R1 H1 k1 Γ1 s1 e1 r1 ⟨g1, g2⟩ => ?_
  subst g1
  rw [g2] at s1
  obtain ⟨a, vs, rfl, hA, hr⟩ := r1
  refine ⟨a, rfl, ⟨vs, ex_t s1.rh hA⟩, fun Dl hD => ?_⟩
  refine lc_tup (K := X.K) (a := a) (xs := vs) (g := gName j) (tt := lcT X scope ifs) (te := lcE X scope elt) (vs := [j]) (σ := σ) (Qd := fun H => Q (.ref Dl) H) (LcInv X.K c Γ σ R1 Dl (fun H' => True) Acc) (lc_start s1 hD trivial h0) (fun i H' _ ⟨_, _, s', e', _⟩ => ex_t s'.rh (ex_t e' hA)) (fun i x H' hi h => ?_) (fun H' h => ?_)
  · obtain ⟨d, hd1, hd2⟩ := hr.get' hi
    have hlt := (List.getElem?_eq_some_iff.mp hd1).1
    exact lc_step j (Tst := Tst i d) L hn (by omega) (fun H H' k kp => trivial) hd2 h (fun X' c' b => ht X' c' b i d hd1) (fun X' c' b tb acc ha hl => he X' c' b i d acc hd1 tb ha hl) (fun tb acc ha => hf i d acc hd1 tb ha) hifs
  · rw [← hr.length] at h
    exact lc_fin h fun v R' H' o Γ' s' e' vo ⟨g1, out, g3, g4⟩ => by
      subst g1 g3
      exact q v R' H' _ _ s' (e1.trans e') vo (hd out g4)
theorem wo_lcT (j : Nat) {ifs : List Expr} {tp : Pos} {Post : OB → SL → Prop} (Acc : Nat → List D → Prop) (Tst : Nat → D → Bool → Prop) (L : LcOk X n n' Γ scope nm j) (hk : EV X n c Γ iter (.tup ds)) (hz : ds.length ≤ 100000) (h0 : Acc 0 [])
    (ht : ∀ X' c', BlkX X X' scope → ∀ i d, ds[i]? = some d → WTs X' n' c' ((Γ.map Slot.inn).set j (.d d)) ifs fun q Γ2 => Γ2 = (Γ.map Slot.inn).set j (.d d) ∧ Tst i d q)
    (he : ∀ X' c', BlkX X X' scope → ∀ i d acc, ds[i]? = some d → Tst i d true → Acc i acc → acc.length ≤ i → WE X' n' c' ((Γ.map Slot.inn).set j (.d d)) elt fun y Γ3 => Γ3 = (Γ.map Slot.inn).set j (.d d) ∧ Acc (i + 1) (acc ++ [y]))
    (hf : ∀ i d acc, ds[i]? = some d → Tst i d false → Acc i acc → Acc (i + 1) acc) (hd : ∀ out, Acc ds.length out → Post (.lst out) Γ)
    (hifs : ifs.length ≤ 1 := by decide) (hs : ∀ x, foldedSetIterable iter X.env x = pure x := by intro _; rfl) : WO X n c Γ (.ListComp elt [⟨.Name nm tp, iter, ifs, 0⟩] scope pos) Post := .mk fun hn σ R H s Q q => by
  exact (lc_pe j L hn (pi_tup pW) hifs hs).w (rd_lcT j Acc Tst L hk hz h0 ht he hf hd hifs hn s Q q)
theorem ws_lcT (j : Nat) {ifs : List Expr} {tp : Pos} {De : DE} {py spos : Pos} {ny : Str} (iy : Nat) (Acc : Nat → List D → Prop) (Tst : Nat → D → Bool → Prop) (L : LcOk X n n' Γ scope nm j) (hk : EV X n c Γ iter (.tup ds)) (hz : ds.length ≤ 100000) (h0 : Acc 0 [])
    (ht : ∀ X' c', BlkX X X' scope → ∀ i d, ds[i]? = some d → WTs X' n' c' ((Γ.map Slot.inn).set j (.d d)) ifs fun q Γ2 => Γ2 = (Γ.map Slot.inn).set j (.d d) ∧ Tst i d q)
    (he : ∀ X' c', BlkX X X' scope → ∀ i d acc, ds[i]? = some d → Tst i d true → Acc i acc → acc.length ≤ i → WE X' n' c' ((Γ.map Slot.inn).set j (.d d)) elt fun y Γ3 => Γ3 = (Γ.map Slot.inn).set j (.d d) ∧ Acc (i + 1) (acc ++ [y]))
    (hf : ∀ i d acc, ds[i]? = some d → Tst i d false → Acc i acc → Acc (i + 1) acc) (hd : ∀ out, Acc ds.length out → De.nx (Γ.set iy (.own (.lst out))))
    (hifs : ifs.length ≤ 1 := by decide) (hs : ∀ x, foldedSetIterable iter X.env x = pure x := by intro _; rfl) 
    (hy : n.N[iy]? = some ny := by rfl) (hyl : n.lc.contains iy = true := by rfl) (hyo : n.oi.contains iy = false := by rfl) (hln : (py.line == pos.line) = true := by rfl) (hany : (scope.names.any fun (m, k) => m == ny && (k == .local || k == .cell)) = false := by decide +kernel) : WS X n c Γ (.Assign [.Name ny py] (.ListComp elt [⟨.Name nm tp, iter, ifs, 0⟩] scope pos) spos) De := .mk fun hn σ R H s E ok => by
  refine (lc_ps j iy L hn (pi_tup pW) hifs hs hy hyl hln hany).w ?_
  show tLc _ _ _ _ _ σ H fun x H1 => gName iy x σ H1 E.nx
  exact rd_lcT (Post := fun o Γ' => De.nx (Γ'.set iy (.own o))) j Acc Tst L hk hz h0 ht he hf (fun out ho => hd out ho) hifs hn s _ fun v R' H' o Γ' s' e' vo p' => ok.nx _ R' H' _ (s'.setO iy vo (hn.noi hyo)) e' p'

/-- .. in range(m) -/
theorem rd_lcR1 (j : Nat) {ifs : List Expr} {Post : OB → SL → Prop} (Acc : Nat → List D → Prop) (Tst : Nat → Bool → Prop) (m : Nat) (L : LcOk X n n' Γ scope nm j) (hb : Blt X "range" (.type "range")) (jr : Nat) (hk : WE X n c Γ a fun x Γ1 => ∃ i : Int, x = .int i ∧ i.toNat = m ∧ i < 2 ^ 62 ∧ -(2 ^ 62) ≤ i ∧ Γ1 = Γ) (hz : m ≤ 100000) (h0 : Acc 0 [])
    (ht : ∀ X' c', BlkX X X' scope → ∀ i, i < m → WTs X' n' c' ((Γ.map Slot.inn).set j (.d (.int (i : Int)))) ifs fun q Γ2 => Γ2 = (Γ.map Slot.inn).set j (.d (.int (i : Int))) ∧ Tst i q)
    (he : ∀ X' c', BlkX X X' scope → ∀ i acc, i < m → Tst i true → Acc i acc → acc.length ≤ i → WE X' n' c' ((Γ.map Slot.inn).set j (.d (.int (i : Int)))) elt fun y Γ3 => Γ3 = (Γ.map Slot.inn).set j (.d (.int (i : Int))) ∧ Acc (i + 1) (acc ++ [y]))
    (hf : ∀ i acc, i < m → Tst i false → Acc i acc → Acc (i + 1) acc) (hd : ∀ out, Acc m out → Post (.lst out) Γ)
    (hjr : n.GN[jr]? = some ("range" : Str)) (hst : starEach [a] X.env = [(false, eval a X.env)])
    (hifs : ifs.length ≤ 1) (hn : NOk X n c) {σ : St} {R H : Hp} (s : SOk X.K c Γ σ R H) (Q : VK)
    (q : ∀ v R' H' o Γ', SOk X.K c Γ' σ R' H' → Ex R R' → VOk X.K c Γ' σ R' H' (.own o) v → Post o Γ' → Q v H') : tLc (iRng1 (tCons (tW X a) tNil)) (gName j) (lcT X scope ifs) (lcE X scope elt) [j] σ H Q := by
  obtain ⟨g1, g2, g3⟩ := hn.gl jr _ hjr
  refine hk.run hn σ R H s _ fun v R1 H1 x Γ1 s1 e1 r1 ⟨i, hx, h1, h2, h3, g4⟩ => ?_
  subst hx
  rw [g4] at s1
  cases (show v = .int i from r1)
  refine ⟨i, rfl, h3, h2, fun Dl hD => ?_⟩
  rw [h1]
  refine lc_range (lo := 0) (n := m) (g := gName j) (tt := lcT X scope ifs) (te := lcE X scope elt) (vs := [j]) (σ := σ) (Qd := fun H => Q (.ref Dl) H) (LcInv X.K c Γ σ R1 Dl (fun H' => True) Acc) (lc_start s1 hD trivial h0) (fun i H' hi h => ?_) (fun H' h => ?_)
  · have e0 : (0 : Int) + (i : Int) = (i : Int) := Int.zero_add _
    rw [e0]
    exact lc_step j (Tst := Tst i) (d := .int (i : Int)) L hn (by omega) (fun H H' k kp => trivial) rfl h (fun X' c' b => ht X' c' b i hi) (fun X' c' b tb acc ha hl => he X' c' b i acc hi tb ha hl) (fun tb acc ha => hf i acc hi tb ha) hifs
  · exact lc_fin h fun v R' H' o Γ' s' e' vo ⟨q1, out, q3, q4⟩ => by
      rw [q1] at s' vo; subst q3
      exact q v R' H' _ _ s' (e1.trans e') vo (hd out q4)
theorem wo_lcR1 (j : Nat) {ifs : List Expr} {tp p2 : Pos} {Post : OB → SL → Prop} (Acc : Nat → List D → Prop) (Tst : Nat → Bool → Prop) (m : Nat) (L : LcOk X n n' Γ scope nm j) (hb : Blt X "range" (.type "range")) (jr : Nat) (hk : WE X n c Γ a fun x Γ1 => ∃ i : Int, x = .int i ∧ i.toNat = m ∧ i < 2 ^ 62 ∧ -(2 ^ 62) ≤ i ∧ Γ1 = Γ) (hz : m ≤ 100000) (h0 : Acc 0 [])
    (ht : ∀ X' c', BlkX X X' scope → ∀ i, i < m → WTs X' n' c' ((Γ.map Slot.inn).set j (.d (.int (i : Int)))) ifs fun q Γ2 => Γ2 = (Γ.map Slot.inn).set j (.d (.int (i : Int))) ∧ Tst i q)
    (he : ∀ X' c', BlkX X X' scope → ∀ i acc, i < m → Tst i true → Acc i acc → acc.length ≤ i → WE X' n' c' ((Γ.map Slot.inn).set j (.d (.int (i : Int)))) elt fun y Γ3 => Γ3 = (Γ.map Slot.inn).set j (.d (.int (i : Int))) ∧ Acc (i + 1) (acc ++ [y]))
    (hf : ∀ i acc, i < m → Tst i false → Acc i acc → Acc (i + 1) acc) (hd : ∀ out, Acc m out → Post (.lst out) Γ)
    (hjr : n.GN[jr]? = some ("range" : Str) := by rfl) (hst : starEach [a] X.env = [(false, eval a X.env)] := by exact se_1 rfl)
    (hifs : ifs.length ≤ 1 := by decide) (hs : ∀ x, foldedSetIterable (.Call (.Name "range" p) [a] [] p2) X.env x = pure x := by intro _; rfl) : WO X n c Γ (.ListComp elt [⟨.Name nm tp, .Call (.Name "range" p) [a] [] p2, ifs, 0⟩] scope pos) Post := .mk fun hn σ R H s Q q => by
  obtain ⟨g1, g2, g3⟩ := hn.gl jr _ hjr
  exact (lc_pe j L hn (pi_range1 g1 hb.mg (pa_cons pW pa_nil hst) hst) hifs hs).w (rd_lcR1 j Acc Tst m L hb jr hk hz h0 ht he hf hd hjr hst hifs hn s Q q)
theorem ws_lcR1 (j : Nat) {ifs : List Expr} {tp p2 : Pos} {De : DE} {py spos : Pos} {ny : Str} (iy : Nat) (Acc : Nat → List D → Prop) (Tst : Nat → Bool → Prop) (m : Nat) (L : LcOk X n n' Γ scope nm j) (hb : Blt X "range" (.type "range")) (jr : Nat) (hk : WE X n c Γ a fun x Γ1 => ∃ i : Int, x = .int i ∧ i.toNat = m ∧ i < 2 ^ 62 ∧ -(2 ^ 62) ≤ i ∧ Γ1 = Γ) (hz : m ≤ 100000) (h0 : Acc 0 [])
    (ht : ∀ X' c', BlkX X X' scope → ∀ i, i < m → WTs X' n' c' ((Γ.map Slot.inn).set j (.d (.int (i : Int)))) ifs fun q Γ2 => Γ2 = (Γ.map Slot.inn).set j (.d (.int (i : Int))) ∧ Tst i q)
    (he : ∀ X' c', BlkX X X' scope → ∀ i acc, i < m → Tst i true → Acc i acc → acc.length ≤ i → WE X' n' c' ((Γ.map Slot.inn).set j (.d (.int (i : Int)))) elt fun y Γ3 => Γ3 = (Γ.map Slot.inn).set j (.d (.int (i : Int))) ∧ Acc (i + 1) (acc ++ [y]))
    (hf : ∀ i acc, i < m → Tst i false → Acc i acc → Acc (i + 1) acc) (hd : ∀ out, Acc m out → De.nx (Γ.set iy (.own (.lst out))))
    (hjr : n.GN[jr]? = some ("range" : Str) := by rfl) (hst : starEach [a] X.env = [(false, eval a X.env)] := by exact se_1 rfl)
    (hifs : ifs.length ≤ 1 := by decide) (hs : ∀ x, foldedSetIterable (.Call (.Name "range" p) [a] [] p2) X.env x = pure x := by intro _; rfl) 
    (hy : n.N[iy]? = some ny := by rfl) (hyl : n.lc.contains iy = true := by rfl) (hyo : n.oi.contains iy = false := by rfl) (hln : (py.line == pos.line) = true := by rfl) (hany : (scope.names.any fun (m, k) => m == ny && (k == .local || k == .cell)) = false := by decide +kernel) : WS X n c Γ (.Assign [.Name ny py] (.ListComp elt [⟨.Name nm tp, .Call (.Name "range" p) [a] [] p2, ifs, 0⟩] scope pos) spos) De := .mk fun hn σ R H s E ok => by
  obtain ⟨g1, g2, g3⟩ := hn.gl jr _ hjr
  refine (lc_ps j iy L hn (pi_range1 g1 hb.mg (pa_cons pW pa_nil hst) hst) hifs hs hy hyl hln hany).w ?_
  show tLc _ _ _ _ _ σ H fun x H1 => gName iy x σ H1 E.nx
  exact rd_lcR1 (Post := fun o Γ' => De.nx (Γ'.set iy (.own o))) j Acc Tst m L hb jr hk hz h0 ht he hf (fun out ho => hd out ho) hjr hst hifs hn s _ fun v R' H' o Γ' s' e' vo p' => ok.nx _ R' H' _ (s'.setO iy vo (hn.noi hyo)) e' p'

end
/-- .. in range(a number that is drawn) -/
theorem wo_lcR1d (j : Nat) {ifs : List Expr} {tp p2 : Pos} {Post : OB → SL → Prop} (Acc : Nat → List D → Prop) (Tst : Nat → Bool → Prop) (M : Nat → Prop) (L : LcOk X n n' Γ scope nm j) (hb : Blt X "range" (.type "range")) (jr : Nat) (hk : WE X n c Γ a fun x Γ1 => Γ1 = Γ ∧ ∃ m : Nat, x = .int (m : Int) ∧ M m) (hz : ∀ m, M m → m ≤ 100000) (h0 : Acc 0 [])
    (ht : ∀ X' c', BlkX X X' scope → ∀ i : Nat, WTs X' n' c' ((Γ.map Slot.inn).set j (.d (.int (i : Int)))) ifs fun q Γ2 => Γ2 = (Γ.map Slot.inn).set j (.d (.int (i : Int))) ∧ Tst i q)
    (he : ∀ X' c', BlkX X X' scope → ∀ (i : Nat) acc, Tst i true → Acc i acc → acc.length ≤ i → WE X' n' c' ((Γ.map Slot.inn).set j (.d (.int (i : Int)))) elt fun y Γ3 => Γ3 = (Γ.map Slot.inn).set j (.d (.int (i : Int))) ∧ Acc (i + 1) (acc ++ [y]))
    (hf : ∀ i acc, Tst i false → Acc i acc → Acc (i + 1) acc) (hd : ∀ m out, M m → Acc m out → Post (.lst out) Γ)
    (hjr : n.GN[jr]? = some ("range" : Str) := by rfl) (hst : starEach [a] X.env = [(false, eval a X.env)] := by exact se_1 rfl)
    (hifs : ifs.length ≤ 1 := by decide) (hs : ∀ x, foldedSetIterable (.Call (.Name "range" p) [a] [] p2) X.env x = pure x := by intro _; rfl) : WO X n c Γ (.ListComp elt [⟨.Name nm tp, .Call (.Name "range" p) [a] [] p2, ifs, 0⟩] scope pos) Post := .mk fun hn σ R H s Q q => by
  obtain ⟨g1, g2, g3⟩ := hn.gl jr _ hjr
  refine (lc_pe j L hn (pi_range1 g1 hb.mg (pa_cons pW pa_nil hst) hst) hifs hs).w ?_
  refine hk.run hn σ R H s _ fun v R1 H1 x Γ1 s1 e1 r1 ⟨g4, m, hx, hM⟩ => ?_
  subst hx
  rw [g4] at s1
  cases (show v = .int (m : Int) from r1)
  have hm := hz m hM
  refine ⟨(m : Int), rfl, by omega, by omega, fun Dl hD => ?_⟩
  rw [Int.toNat_natCast]
  refine lc_range (lo := 0) (n := m) (g := gName j) (tt := lcT X scope ifs) (te := lcE X scope elt) (vs := [j]) (σ := σ) (Qd := fun H => Q (.ref Dl) H) (LcInv X.K c Γ σ R1 Dl (fun H' => True) Acc) (lc_start s1 hD trivial h0) (fun i H' hi h => ?_) (fun H' h => ?_)
  · have e0 : (0 : Int) + (i : Int) = (i : Int) := Int.zero_add _
    rw [e0]
    exact lc_step j (Tst := Tst i) (d := .int (i : Int)) L hn (by omega) (fun H H' k kp => trivial) rfl h (fun X' c' b => ht X' c' b i) (fun X' c' b tb acc ha hl => he X' c' b i acc tb ha hl) (fun tb acc ha => hf i acc tb ha) hifs
  · exact lc_fin h fun v R' H' o Γ' s' e' vo ⟨q1, out, q3, q4⟩ => by
      rw [q1] at s' vo; subst q3
      exact q v R' H' _ _ s' (e1.trans e') vo (hd m out hM q4)
end DL

end
section
set_option Elab.async false
set_option linter.all false
set_option autoImplicit true
set_option maxRecDepth 100000
set_option maxHeartbeats 400000
namespace DL
open PySem L2
open PyProof.Rows hiding St

/-! ### isinstance against the built-in kinds -/
def D.ty : D → String
  | .non => "NoneType"
  | .bl _ => "bool"
  | .int _ => "int"
  | .str _ => "str"
  | .lst _ => "list"
  | .tup _ => "tuple"
  | .dic _ => "dict"
def tyB (a b : String) : Bool := a == b || (a == "bool" && b == "int")
def tys : List String := ["bool", "int", "str", "list", "tuple", "dict"]
def rowB (a : String) : Option (List Bool) := (PySem.fastBuiltinMro a).map fun l => tys.map fun b => l.contains (Value.type b)
theorem kit_meta : (tys.all fun b => PySem.W.kitMeta b) = true := by decide +kernel
theorem row_non : rowB "NoneType" = some (tys.map (tyB "NoneType")) := by decide +kernel
theorem row_bool : rowB "bool" = some (tys.map (tyB "bool")) := by decide +kernel
theorem row_int : rowB "int" = some (tys.map (tyB "int")) := by decide +kernel
theorem row_str : rowB "str" = some (tys.map (tyB "str")) := by decide +kernel
theorem row_list : rowB "list" = some (tys.map (tyB "list")) := by decide +kernel
theorem row_tuple : rowB "tuple" = some (tys.map (tyB "tuple")) := by decide +kernel
theorem row_dict : rowB "dict" = some (tys.map (tyB "dict")) := by decide +kernel
theorem D.row (x : D) : rowB x.ty = some (tys.map (tyB x.ty)) := by
  cases x
  · exact row_non
  · exact row_bool
  · exact row_int
  · exact row_str
  · exact row_list
  · exact row_tuple
  · exact row_dict
theorem kitB_of (x : D) {T : String} (h : T ∈ ["bool", "int", "str", "list", "tuple", "dict"]) : kitB x.ty T = some (tyB x.ty T) := by
  have hm : PySem.W.kitMeta T = true := List.all_eq_true.mp kit_meta T h
  unfold kitB
  by_cases e : (Value.type x.ty == Value.type T) = true
  · rw [if_pos e]
    have e' : x.ty = T := by simpa using e
    rw [e']; simp [tyB]
  · rw [if_neg e, if_pos hm]
    obtain ⟨l, h1, h2⟩ := Option.map_eq_some_iff.mp x.row
    rw [h1, Option.map_some]
    exact congrArg some (List.map_inj_left.mp h2 T h)
theorem Wk.tyX {K : PySem.W.Frag} {R H : Hp} {x : D} {v : V} (e : Ex R H) (h : Wk K R H x v) : TyX K H v (.type x.ty) := by
  cases x with
  | non => cases h.non; exact .base .non
  | bl b => cases h.bl; exact .base (.bl b)
  | int i => cases h.int; exact .base (.int i)
  | str z => cases h.str; exact .base (.str z)
  | lst ds => obtain ⟨a, vs, rfl, h2, _⟩ := h.lst e; exact .base (.lst h2)
  | dic ds => obtain ⟨a, vs, rfl, h2, _⟩ := h.dic e; exact .base (.dK h2)
  | tup ds =>
    obtain ⟨a, vs, rfl, h2, _⟩ := h.tup e
    rcases h2 with (h2 | ⟨o, h2⟩) | ⟨o, its, m, h2, h3, _⟩
    · exact .base (.tup h2)
    · exact .fTuple h2
    · exact .kTuple h2 h3
section
variable {X : Cx} {n : Nm} {c : Cc} {Γ : SL} {e a b : Expr} {x y z : D} {pos p p2 : Pos} {nm tn : Str} {k : AK}
theorem we_isi {T : String} {Post : D → SL → Prop} (hb : Blt X "isinstance" (.builtin "isinstance")) (ht : Blt X tn (.type T)) (j j2 : Nat) (h : WK X n c Γ e fun k Γ1 => ∃ x, k.get Γ1 = some x ∧ Post (.bl (tyB x.ty T)) Γ1) (hT : T ∈ ["bool", "int", "str", "list", "tuple", "dict"] := by decide)
    (hj : n.GN[j]? = some ("isinstance" : Str) := by rfl) (hj2 : n.GN[j2]? = some tn := by rfl) (he : starEach [e, .Name tn p2] X.env = (false, eval e X.env) :: starEach [.Name tn p2] X.env := by exact se_c rfl) (he2 : starEach [.Name tn p2] X.env = (false, eval (.Name tn p2) X.env) :: starEach [] X.env := by exact se_c rfl) (hpl : (backTo pos (starEach [.Name tn p2] X.env)).any (·.1) = false := by exact se_any rfl) :
    WE X n c Γ (.Call (.Name "isinstance" p) [e, .Name tn p2] [] pos) Post := .mk fun hn σ R H s Q q => by
  obtain ⟨g1, g2, g3⟩ := hn.gl j _ hj
  obtain ⟨g4, g5, g6⟩ := hn.gl j2 _ hj2
  refine (pe_callB call_isi g1 hb.mg hb.bt (pa_cons pW (pa_cons (pe_bltn (v := .ty T) g4 ht.mg ht.bt rfl g6 g5) pa_nil he2) he) g3 g2 he hpl).w (h.run hn σ R H s _ fun v R1 H1 k Γ1 s1 e1 r1 ⟨x, gx, px⟩ => ?_)
  exact ⟨v, .ty T, .type x.ty, .type T, _, rfl, .ty T, ((r1.wk s1 gx).tyX s1.rh), kit_ty (kitB_of x hT), q (.bl (tyB x.ty T)) R1 H1 (.bl (tyB x.ty T)) Γ1 s1 e1 rfl px⟩
theorem ev_isi {T : String} (hb : Blt X "isinstance" (.builtin "isinstance")) (ht : Blt X tn (.type T)) (j j2 : Nat) (ha : EK X n c Γ e k) (hg : k.get Γ = some x := by rfl) (hT : T ∈ ["bool", "int", "str", "list", "tuple", "dict"] := by decide)
    (hj : n.GN[j]? = some ("isinstance" : Str) := by rfl) (hj2 : n.GN[j2]? = some tn := by rfl) (he : starEach [e, .Name tn p2] X.env = (false, eval e X.env) :: starEach [.Name tn p2] X.env := by exact se_c rfl) (he2 : starEach [.Name tn p2] X.env = (false, eval (.Name tn p2) X.env) :: starEach [] X.env := by exact se_c rfl) (hpl : (backTo pos (starEach [.Name tn p2] X.env)).any (·.1) = false := by exact se_any rfl) :
    EV X n c Γ (.Call (.Name "isinstance" p) [e, .Name tn p2] [] pos) (.bl (tyB x.ty T)) := we_isi hb ht j j2 (wk_ek ha ⟨x, hg, rfl, rfl⟩) hT hj hj2 he he2 hpl
theorem et_isi {T : String} (hb : Blt X "isinstance" (.builtin "isinstance")) (ht : Blt X tn (.type T)) (j j2 : Nat) (ha : EK X n c Γ e k) (hg : k.get Γ = some x := by rfl) (hT : T ∈ ["bool", "int", "str", "list", "tuple", "dict"] := by decide)
    (hj : n.GN[j]? = some ("isinstance" : Str) := by rfl) (hj2 : n.GN[j2]? = some tn := by rfl) (he : starEach [e, .Name tn p2] X.env = (false, eval e X.env) :: starEach [.Name tn p2] X.env := by exact se_c rfl) (he2 : starEach [.Name tn p2] X.env = (false, eval (.Name tn p2) X.env) :: starEach [] X.env := by exact se_c rfl) (hpl : (backTo pos (starEach [.Name tn p2] X.env)).any (·.1) = false := by exact se_any rfl) :
    ET X n c Γ (.Call (.Name "isinstance" p) [e, .Name tn p2] [] pos) (tyB x.ty T) := et_val (ev_isi hb ht j j2 ha hg hT hj hj2 he he2 hpl)
/-! ### numbers in lists and tuples: x in xs -/
def D.flat : D → Bool
  | .non => true
  | .bl _ => true
  | .int _ => true
  | .str _ => true
  | _ => false
def fv : D → V
  | .non => .non
  | .bl b => .bl b
  | .int i => .int i
  | .str s => .str s
  | _ => .non
theorem flat_fv {K : PySem.W.Frag} {R : Hp} {x : D} {v : V} (h : x.flat = true) (r : Rp K R x v) : v = fv x ∧ flatV v = true := by
  cases x with
  | non => cases (show _ = _ from r); exact ⟨rfl, rfl⟩
  | bl b => cases (show _ = _ from r); exact ⟨rfl, rfl⟩
  | int i => cases (show _ = _ from r); exact ⟨rfl, rfl⟩
  | str z => cases (show _ = _ from r); exact ⟨rfl, rfl⟩
  | _ => cases h
theorem flat_fvs {K : PySem.W.Frag} {R : Hp} : ∀ {xs : List D} {vs : List V}, xs.all D.flat = true → RpL K R xs vs → vs = xs.map fv ∧ vs.all flatV = true
  | [], _, _, r => by cases (show _ = _ from r); exact ⟨rfl, rfl⟩
  | x :: xs, _, h, ⟨v, ws, e, r1, r2⟩ => by
    subst e
    rw [List.all_cons, Bool.and_eq_true] at h
    obtain ⟨h1, h2⟩ := flat_fv h.1 r1
    obtain ⟨h3, h4⟩ := flat_fvs h.2 r2
    exact ⟨by rw [h1, h3]; rfl, by rw [List.all_cons, h2, h4]; rfl⟩
def D.inL (x : D) (xs : List D) : Bool := inV (fv x) (xs.map fv)
theorem Wk.flat {K : PySem.W.Frag} {R H : Hp} {x : D} {v : V} (f : x.flat = true) (h : Wk K R H x v) : v = fv x ∧ flatV v = true := by
  rcases h with h | ⟨a, vs, ds, h1, h2, _⟩ | ⟨a, vs, ds, h1, h2, _⟩
  · exact flat_fv f h
  · subst h2; cases f
  · subst h2; cases f
theorem dop_in {neg : Bool} {op : CmpOp} (h : OpR X (compareOp op) (rIn X.K neg)) : DOp X n c (compareOp op) (fun x y Post => ∃ ds, y.seq = some ds ∧ x.flat = true ∧ ds.all D.flat = true ∧ Post (.bl (if neg then !x.inL ds else x.inL ds))) := fun _ => ⟨_, h, fun Γ σ R H x y v w Post s hx hy ⟨ds, e, f1, f2, p⟩ Q q => by
  obtain ⟨r1, r2⟩ := hx.flat f1
  subst r1
  have fin : ∀ vs, RpL X.K R ds vs → vs.all flatV = true ∧ Q (.bl (if neg then !inV (fv x) vs else inV (fv x) vs)) H := fun vs hr => by
    obtain ⟨h3, h4⟩ := flat_fvs f2 hr
    refine ⟨h4, ?_⟩
    rw [h3]
    exact q _ R H (.bl (if neg then !x.inL ds else x.inL ds)) s (Ex.refl _) rfl p
  cases y with
  | lst ys => cases e; obtain ⟨a, vs, rfl, h2, h3⟩ := hy.lst s.rh; exact ⟨a, vs, rfl, .inl (.inl (.inl h2)), r2, fin vs h3⟩
  | tup ys => cases e; obtain ⟨a, vs, rfl, h2, h3⟩ := hy.tup s.rh; exact ⟨a, vs, rfl, .inr h2, r2, fin vs h3⟩
  | _ => cases e⟩
theorem et_in {ds : List D} {l : AK} (ha : EK X n c Γ a k) (hb : EK X n c Γ b l) (hs : y.seq = some ds) (h1 : x.flat = true) (h2 : ds.all D.flat = true) (ga : k.get Γ = some x := by rfl) (gb : l.get Γ = some y := by rfl) (hm : behindInMarks .In b = false := by rfl) : ET X n c Γ (.Compare a [.In] [b] pos) (x.inL ds) :=
  et_cmp (dop_in op_in_seq) ha hb (fun _ p => ⟨ds, hs, h1, h2, p⟩) ga gb hm
theorem et_notIn {ds : List D} {l : AK} (ha : EK X n c Γ a k) (hb : EK X n c Γ b l) (hs : y.seq = some ds) (h1 : x.flat = true) (h2 : ds.all D.flat = true) (ga : k.get Γ = some x := by rfl) (gb : l.get Γ = some y := by rfl) (hm : behindInMarks .NotIn b = false := by rfl) : ET X n c Γ (.Compare a [.NotIn] [b] pos) (!x.inL ds) :=
  et_cmp (dop_in op_notIn_seq) ha hb (fun _ p => ⟨ds, hs, h1, h2, p⟩) ga gb hm
theorem inL_int {i : Int} {ns : List Int} : (D.int i).inL (ns.map D.int) = ns.contains i := by
  unfold D.inL inV
  induction ns with
  | nil => rfl
  | cons m ns ih =>
    rw [List.map_cons, List.map_cons, List.any_cons, ih, List.contains_cons]
    congr 1
    show (m == i) = (i == m)
    exact Bool.beq_comm
end
end DL

end
section
set_option Elab.async false
set_option linter.all false
set_option autoImplicit true
set_option maxRecDepth 10000
set_option maxHeartbeats 400000
namespace DL
open PySem L2
/-! ### rationals: plain laws -/
abbrev qD (q : Rat) : D := .tup [.int q.num, .int (q.den : Int)]
/-- a fraction of so many bits below the line, of eight times so many above -/
def Sz (k : Nat) (q : Rat) : Prop := q.num.natAbs < 2 ^ (8 * k) ∧ q.den < 2 ^ k
theorem Sz.mono {j k : Nat} {q : Rat} (h : Sz j q) (e : j ≤ k) : Sz k q :=
  ⟨Nat.lt_of_lt_of_le h.1 (Nat.pow_le_pow_right (by decide) (by omega)), Nat.lt_of_lt_of_le h.2 (Nat.pow_le_pow_right (by decide) e)⟩
theorem den_pos' (q : Rat) : (0 : Int) < (q.den : Int) := by have := q.den_pos; omega
/-- a number of so many bits -/
def Bt (k : Nat) (i : Int) : Prop := i.natAbs < 2 ^ k
theorem Sz.n {k : Nat} {q : Rat} (h : Sz k q) : Bt (8 * k) q.num := h.1
theorem Sz.d {k : Nat} {q : Rat} (h : Sz k q) : Bt k (q.den : Int) := by show ((q.den : Int)).natAbs < _; simpa using h.2
theorem Bt.mono {j k : Nat} {i : Int} (h : Bt j i) (e : j ≤ k) : Bt k i := Nat.lt_of_lt_of_le h (Nat.pow_le_pow_right (by decide) e)
theorem Bt.mul {j k : Nat} {a b : Int} (h : Bt j a) (h' : Bt k b) : Bt (j + k) (a * b) := wide_lt h h'
theorem Bt.add {k : Nat} {a b : Int} (h : Bt k a) (h' : Bt k b) : Bt (k + 1) (a + b) := by
  unfold Bt at *
  have := Int.natAbs_add_le a b
  rw [Nat.pow_succ]; omega
theorem Bt.sub {k : Nat} {a b : Int} (h : Bt k a) (h' : Bt k b) : Bt (k + 1) (a - b) := by
  unfold Bt at *
  have := Int.natAbs_sub_le a b
  rw [Nat.pow_succ]; omega
theorem Bt.neg {k : Nat} {a : Int} (h : Bt k a) : Bt k (-a) := by unfold Bt at *; rwa [Int.natAbs_neg]
theorem Bt.le {k : Nat} {a b : Int} (h : Bt k a) (e : b.natAbs ≤ a.natAbs) : Bt k b := Nat.lt_of_le_of_lt e h
theorem Bt.nat {k : Nat} {m j : Nat} (h : Bt k (j : Int)) (e : m ≤ j) : Bt k (m : Int) := h.le (by omega)
theorem log2_le_of {a : Int} {k : Nat} (h : Bt k a) : a.natAbs.log2 ≤ k := by
  by_cases z : a.natAbs = 0
  · rw [z]; simp
  · have := (Nat.log2_lt z).mpr (show a.natAbs < 2 ^ k from h); omega
theorem Bt.cm {j k : Nat} {a b : Int} (h : Bt j a) (h' : Bt k b) (e : j + k < 1000000) : CMulW a b := by
  have h1 := log2_le_of h; have h2 := log2_le_of h'
  unfold CMulW; omega
theorem Bt.cd {k : Nat} {a b : Int} (h : Bt k b) (h0 : b ≠ 0) (e : k < 9000) : CDivA a b := ⟨h0, by have := log2_le_of h; omega⟩
/-! the parts of sums and products -/
theorem add_parts (a b : Rat) (h : Nat.gcd a.den b.den ≠ 1) : (a + b).num = (a.num * ((b.den / Nat.gcd a.den b.den : Nat) : Int) + b.num * ((a.den / Nat.gcd a.den b.den : Nat) : Int)) / ((Nat.gcd (a.num * ((b.den / Nat.gcd a.den b.den : Nat) : Int) + b.num * ((a.den / Nat.gcd a.den b.den : Nat) : Int)).natAbs (Nat.gcd a.den b.den) : Nat) : Int) ∧
    (a + b).den = (a.den / Nat.gcd a.den b.den * b.den) / Nat.gcd (a.num * ((b.den / Nat.gcd a.den b.den : Nat) : Int) + b.num * ((a.den / Nat.gcd a.den b.den : Nat) : Int)).natAbs (Nat.gcd a.den b.den) := by
  have e : a + b = Rat.add a b := rfl
  rw [e]
  delta Rat.add
  dsimp only
  rw [dif_neg h]
  unfold Rat.maybeNormalize
  split
  · rename_i h1
    simp only [h1]
    simp
  · simp only [Int.divExact_eq_tdiv, Nat.divExact_eq_div, and_true]
    rw [Int.tdiv_eq_ediv_of_dvd]
    exact Int.ofNat_dvd_left.2 (Nat.gcd_dvd_left ..)
theorem add_parts1 (a b : Rat) (h : Nat.gcd a.den b.den = 1) : (a + b).num = a.num * (b.den : Int) + b.num * (a.den : Int) ∧ (a + b).den = a.den * b.den := by
  have e : a + b = Rat.add a b := rfl
  rw [e]
  delta Rat.add
  dsimp only
  rw [dif_pos h]
  exact ⟨rfl, rfl⟩
theorem mul_parts (a b : Rat) : (a * b).num = a.num / ((Nat.gcd a.num.natAbs b.den : Nat) : Int) * (b.num / ((Nat.gcd b.num.natAbs a.den : Nat) : Int)) ∧ (a * b).den = a.den / Nat.gcd b.num.natAbs a.den * (b.den / Nat.gcd a.num.natAbs b.den) := by
  have e : a * b = Rat.mul a b := rfl
  rw [e]
  delta Rat.mul
  dsimp only
  simp only [Int.divExact_eq_tdiv, Nat.divExact_eq_div, and_true]
  rw [Int.tdiv_eq_ediv_of_dvd (Int.ofNat_dvd_left.2 (Nat.gcd_dvd_left ..)), Int.tdiv_eq_ediv_of_dvd (Int.ofNat_dvd_left.2 (Nat.gcd_dvd_left ..))]
theorem Sz.add {j k : Nat} {a b : Rat} (h : Sz j a) (h' : Sz k b) : Sz (j + k + 1) (a + b) := by
  have hn : Bt (8 * (j + k + 1)) (a.num * (b.den : Int) + b.num * (a.den : Int)) := (((h.n.mul h'.d).mono (show 8 * j + k ≤ 8 * (j + k) by omega)).add ((h'.n.mul h.d).mono (by omega))).mono (by omega)
  have hd : Bt (j + k) ((a.den * b.den : Nat) : Int) := by rw [Int.natCast_mul]; exact h.d.mul h'.d
  constructor
  · rw [Rat.num_add]
    refine Nat.lt_of_le_of_lt ?_ hn
    rw [Int.natAbs_ediv_of_dvd (Int.ofNat_dvd_left.2 (Nat.gcd_dvd_left ..))]
    exact Nat.div_le_self _ _
  · rw [Rat.den_add]
    refine Nat.lt_of_le_of_lt (Nat.div_le_self _ _) ?_
    have : a.den * b.den < 2 ^ (j + k) := by unfold Bt at hd; rwa [Int.natAbs_natCast] at hd
    exact Nat.lt_of_lt_of_le this (Nat.pow_le_pow_right (by decide) (by omega))
theorem Sz.neg {k : Nat} {a : Rat} (h : Sz k a) : Sz k (-a) := ⟨by rw [Rat.neg_num, Int.natAbs_neg]; exact h.1, h.2⟩
theorem Sz.sub {j k : Nat} {a b : Rat} (h : Sz j a) (h' : Sz k b) : Sz (j + k + 1) (a - b) := by rw [Rat.sub_eq_add_neg]; exact h.add h'.neg
theorem Sz.mul {j k : Nat} {a b : Rat} (h : Sz j a) (h' : Sz k b) : Sz (j + k) (a * b) := by
  constructor
  · rw [Rat.num_mul]
    rw [show 8 * (j + k) = 8 * j + 8 * k by omega]
    refine Nat.lt_of_le_of_lt ?_ (h.n.mul h'.n)
    rw [Int.natAbs_ediv_of_dvd (Int.ofNat_dvd_left.2 (Nat.gcd_dvd_left ..))]
    exact Nat.div_le_self _ _
  · rw [Rat.den_mul]
    refine Nat.lt_of_le_of_lt (Nat.div_le_self _ _) ?_
    have : Bt (j + k) ((a.den * b.den : Nat) : Int) := by rw [Int.natCast_mul]; exact h.d.mul h'.d
    unfold Bt at this; rwa [Int.natAbs_natCast] at this
theorem fdiv_ediv {a : Int} {b : Nat} (h : b ≠ 0) : Int.fdiv a (b : Int) = a / (b : Int) := Int.fdiv_eq_ediv_of_nonneg _ (by omega)
theorem gcd_int (a : Int) (b : Nat) : Int.gcd a (b : Int) = Nat.gcd a.natAbs b := by simp [Int.gcd]
/-- n over d in lowest terms, d of either sign -/
def fr (n d : Int) : Rat := Rat.divInt n d
theorem fr_pos {n : Int} {d : Nat} : fr n (d : Int) = mkRat n d := Rat.divInt_ofNat n d
theorem fr_sz {n d : Int} {k : Nat} (hn : Bt (8 * k) n) (hd : Bt k d) (h0 : d ≠ 0) : Sz k (fr n d) := by
  have hg : (Int.gcd d n) ≠ 0 := by
    intro z
    exact h0 (Int.gcd_eq_zero_iff.mp z).1
  constructor
  · unfold fr
    rw [Rat.num_divInt]
    refine Nat.lt_of_le_of_lt ?_ hn
    have : (d.sign * n).natAbs = n.natAbs := by rw [Int.natAbs_mul, Int.natAbs_sign_of_ne_zero h0, Nat.one_mul]
    have h2 : (d.sign * n / ((Int.gcd d n : Nat) : Int)).natAbs ≤ (d.sign * n).natAbs := by
      rw [Int.natAbs_ediv_of_dvd (Int.dvd_mul_of_dvd_right (Int.gcd_dvd_right ..))]
      exact Nat.div_le_self _ _
    omega
  · unfold fr
    rw [Rat.den_divInt, if_neg h0]
    exact Nat.lt_of_le_of_lt (Nat.div_le_self _ _) hd
def cmpQ (a b : Rat) : Int := if a < b then -1 else if b < a then 1 else 0
theorem lt_num {a b : Rat} : a < b ↔ a.num * (b.den : Int) < b.num * (a.den : Int) := Rat.lt_iff a b
theorem lt_same {a b : Rat} (h : a.den = b.den) : a < b ↔ a.num < b.num := by
  rw [Rat.lt_iff, h]
  exact Int.mul_lt_mul_right (den_pos' b)
theorem eqv_q (a b : Rat) : (qD a).eqv (qD b) = decide (a = b) := by
  show (a.num == b.num && ((a.den : Int) == (b.den : Int) && true)) = _
  rw [Bool.eq_iff_iff]
  simp only [Bool.and_true, Bool.and_eq_true, beq_iff_eq, decide_eq_true_eq]
  constructor
  · rintro ⟨h1, h2⟩
    exact Rat.ext h1 (by omega)
  · rintro rfl; exact ⟨rfl, rfl⟩
theorem shp_q (a : Rat) : (qD a).shp = true := by
  show SeqAt.shaped (.tuple [.int a.num, .int (a.den : Int)]) = true
  rfl

/-! ### calls of pure defs -/
section
variable {X : Cx} {n : Nm} {c : Cc} {Γ : SL} {e a b d : Expr} {x y z : D} {pos p : Pos} {nm : Str} {S : Sg} {k l m : AK} {ps : List Par}
theorem ev_call1 (hc : CalF X n.k nm S) (j : Nat) (ha : EK X n c Γ a k) (h : ∀ Post : Res → List OB → Prop, Post (.d z) [] → S ps Post) (hp : pars Γ [k] = some ps := by rfl) (ho : ownIx [k] = [] := by rfl) (hj : n.GN[j]? = some nm := by rfl)
    (he : starEach [a] X.env = (false, eval a X.env) :: starEach [] X.env := by exact se_c rfl) (hpl : (backTo pos (starEach [] X.env)).any (·.1) = false := by exact se_any rfl) : EV X n c Γ (.Call (.Name nm p) [a] [] pos) z :=
  we_call hc j (wa_of (ea_cons ha ea_nil he) ⟨ps, hp, by rw [ho]; exact List.nodup_nil, by rw [ho]; simp, h _ ⟨z, rfl, rfl, by rw [ho]; rfl⟩⟩) hj he hpl
theorem ev_call2 (hc : CalF X n.k nm S) (j : Nat) (ha : EK X n c Γ a k) (hb : EK X n c Γ b l) (h : ∀ Post : Res → List OB → Prop, Post (.d z) [] → S ps Post) (hp : pars Γ [k, l] = some ps := by rfl) (ho : ownIx [k, l] = [] := by rfl) (hj : n.GN[j]? = some nm := by rfl)
    (he : starEach [a, b] X.env = (false, eval a X.env) :: starEach [b] X.env := by exact se_c rfl) (he2 : starEach [b] X.env = (false, eval b X.env) :: starEach [] X.env := by exact se_c rfl) (hpl : (backTo pos (starEach [b] X.env)).any (·.1) = false := by exact se_any rfl) : EV X n c Γ (.Call (.Name nm p) [a, b] [] pos) z :=
  we_call hc j (wa_of (ea_cons ha (ea_cons hb ea_nil he2) he) ⟨ps, hp, by rw [ho]; exact List.nodup_nil, by rw [ho]; simp, h _ ⟨z, rfl, rfl, by rw [ho]; rfl⟩⟩) hj he hpl
theorem ev_call3 (hc : CalF X n.k nm S) (j : Nat) (ha : EK X n c Γ a k) (hb : EK X n c Γ b l) (hd : EK X n c Γ d m) (h : ∀ Post : Res → List OB → Prop, Post (.d z) [] → S ps Post) (hp : pars Γ [k, l, m] = some ps := by rfl) (ho : ownIx [k, l, m] = [] := by rfl) (hj : n.GN[j]? = some nm := by rfl)
    (he : starEach [a, b, d] X.env = (false, eval a X.env) :: starEach [b, d] X.env := by exact se_c rfl) (he2 : starEach [b, d] X.env = (false, eval b X.env) :: starEach [d] X.env := by exact se_c rfl) (he3 : starEach [d] X.env = (false, eval d X.env) :: starEach [] X.env := by exact se_c rfl) (hpl : (backTo pos (starEach [b, d] X.env)).any (·.1) = false := by exact se_any rfl) : EV X n c Γ (.Call (.Name nm p) [a, b, d] [] pos) z :=
  we_call hc j (wa_of (ea_cons ha (ea_cons hb (ea_cons hd ea_nil he3) he2) he) ⟨ps, hp, by rw [ho]; exact List.nodup_nil, by rw [ho]; simp, h _ ⟨z, rfl, rfl, by rw [ho]; rfl⟩⟩) hj he hpl
theorem eo_call1 {o : OB} (hc : CalF X n.k nm S) (j : Nat) (ha : EK X n c Γ a k) (h : ∀ Post : Res → List OB → Prop, Post (.own o) [] → S ps Post) (hp : pars Γ [k] = some ps := by rfl) (ho : ownIx [k] = [] := by rfl) (hj : n.GN[j]? = some nm := by rfl)
    (he : starEach [a] X.env = (false, eval a X.env) :: starEach [] X.env := by exact se_c rfl) (hpl : (backTo pos (starEach [] X.env)).any (·.1) = false := by exact se_any rfl) : EO X n c Γ (.Call (.Name nm p) [a] [] pos) o :=
  wo_call hc j (wa_of (ea_cons ha ea_nil he) ⟨ps, hp, by rw [ho]; exact List.nodup_nil, by rw [ho]; simp, h _ ⟨o, rfl, rfl, by rw [ho]; rfl⟩⟩) hj he hpl
theorem eo_call2 {o : OB} (hc : CalF X n.k nm S) (j : Nat) (ha : EK X n c Γ a k) (hb : EK X n c Γ b l) (h : ∀ Post : Res → List OB → Prop, Post (.own o) [] → S ps Post) (hp : pars Γ [k, l] = some ps := by rfl) (ho : ownIx [k, l] = [] := by rfl) (hj : n.GN[j]? = some nm := by rfl)
    (he : starEach [a, b] X.env = (false, eval a X.env) :: starEach [b] X.env := by exact se_c rfl) (he2 : starEach [b] X.env = (false, eval b X.env) :: starEach [] X.env := by exact se_c rfl) (hpl : (backTo pos (starEach [b] X.env)).any (·.1) = false := by exact se_any rfl) : EO X n c Γ (.Call (.Name nm p) [a, b] [] pos) o :=
  wo_call hc j (wa_of (ea_cons ha (ea_cons hb ea_nil he2) he) ⟨ps, hp, by rw [ho]; exact List.nodup_nil, by rw [ho]; simp, h _ ⟨o, rfl, rfl, by rw [ho]; rfl⟩⟩) hj he hpl
end
/-! ### defs that draw from a store: it comes back as a store -/
section
variable {X : Cx} {n : Nm} {c : Cc} {Γ : SL} {e a b d : Expr} {x y z : D} {pos p p1 : Pos} {nm sn : Str} {S : Sg} {es : List Expr}
theorem set_same {i : Nat} {s : Slot} (h : Γ[i]? = some s) : Γ.set i s = Γ := by
  apply List.ext_getElem?
  intro j
  by_cases hj : i = j
  · subst hj; rw [List.getElem?_set_self (List.getElem?_eq_some_iff.mp h).1, h]
  · rw [List.getElem?_set_ne hj]
/-- every promise of a def that gives its store back whole -/
def StoS (S : Sg) (ps : List Par) (P : Res → Prop) : Prop := ∀ Post : Res → List OB → Prop, (∀ r, P r → Post r [.sto]) → S (.own .sto :: ps) Post
theorem sto_args {Post : Res → SL → Prop} (i : Nat) (hg : Γ[i]? = some (.own .sto)) (hi : n.N[i]? = some sn) (hv : n.V.contains i = true)
    (h : WA X n c Γ es fun ks Γ1 => Γ1 = Γ ∧ ∃ ps, pars Γ ks = some ps ∧ ownIx ks = [] ∧ i ∉ readIx ks ∧ StoS S ps fun r => Post r Γ)
    (he : starEach (.Name sn p1 :: es) X.env = (false, eval (.Name sn p1) X.env) :: starEach es X.env) :
    WA X n c Γ (.Name sn p1 :: es) fun ks Γ1 => ∃ ps, pars Γ1 ks = some ps ∧ (ownIx ks).Nodup ∧ (∀ i ∈ readIx ks, i ∉ ownIx ks) ∧ S ps fun r os => Post r (updOwn Γ1 (ownIx ks) os) := by
  refine wa_cons (wk_ek (ek_o i hg rfl hi hv) (h.mono ?_)) he
  rintro ks Γ1 ⟨rfl, ps, h1, h2, h3, h4⟩
  refine ⟨.own .sto :: ps, ?_, ?_, ?_, ?_⟩
  · show (match AK.par Γ1 (.o i), pars Γ1 ks with | some x, some xs => some (x :: xs) | _, _ => none) = _
    rw [h1]
    simp only [AK.par, hg]
  · show (i :: ownIx ks).Nodup; rw [h2]; simp
  · intro j hj
    show j ∉ i :: ownIx ks
    rw [h2]
    have hj' : j ∈ readIx ks := hj
    intro z
    have : j = i := by simpa using z
    subst this; exact h3 hj'
  · refine h4 _ fun r pr => ?_
    show Post r (updOwn Γ1 (i :: ownIx ks) [.sto])
    rw [h2]
    show Post r (Γ1.set i (.own .sto))
    rw [set_same hg]; exact pr
theorem we_sto (hc : CalF X n.k nm S) (j i : Nat) {Post : D → SL → Prop} (h : WA X n c Γ es fun ks Γ1 => Γ1 = Γ ∧ ∃ ps, pars Γ ks = some ps ∧ ownIx ks = [] ∧ i ∉ readIx ks ∧ StoS S ps fun r => ∃ x, r.data = some x ∧ Post x Γ)
    (hg : Γ[i]? = some (.own .sto) := by rfl) (hi : n.N[i]? = some sn := by rfl) (hv : n.V.contains i = true := by rfl)
    (hj : n.GN[j]? = some nm := by rfl) (he : starEach (.Name sn p1 :: es) X.env = (false, eval (.Name sn p1) X.env) :: starEach es X.env := by exact se_c rfl) (hpl : (backTo pos (starEach es X.env)).any (·.1) = false := by exact se_any rfl) : WE X n c Γ (.Call (.Name nm p) (.Name sn p1 :: es) [] pos) Post :=
  we_call hc j (sto_args (Post := fun r Γ' => ∃ x, r.data = some x ∧ Post x Γ') i hg hi hv h he) hj he hpl
theorem wo_sto (hc : CalF X n.k nm S) (j i : Nat) {Post : OB → SL → Prop} (h : WA X n c Γ es fun ks Γ1 => Γ1 = Γ ∧ ∃ ps, pars Γ ks = some ps ∧ ownIx ks = [] ∧ i ∉ readIx ks ∧ StoS S ps fun r => ∃ o, r = .own o ∧ Post o Γ)
    (hg : Γ[i]? = some (.own .sto) := by rfl) (hi : n.N[i]? = some sn := by rfl) (hv : n.V.contains i = true := by rfl)
    (hj : n.GN[j]? = some nm := by rfl) (he : starEach (.Name sn p1 :: es) X.env = (false, eval (.Name sn p1) X.env) :: starEach es X.env := by exact se_c rfl) (hpl : (backTo pos (starEach es X.env)).any (·.1) = false := by exact se_any rfl) : WO X n c Γ (.Call (.Name nm p) (.Name sn p1 :: es) [] pos) Post :=
  wo_call hc j (sto_args (Post := fun r Γ' => ∃ o, r = .own o ∧ Post o Γ') i hg hi hv h he) hj he hpl
/-- f(.., x, ..) by told arguments behind the store -/
theorem sto_ea {ks : List AK} {ps : List Par} {Q : Res → Prop} {i : Nat} (h : EA X n c Γ es ks) (hq : StoS S ps Q) (hp : pars Γ ks = some ps := by rfl) (ho : ownIx ks = [] := by rfl) (hr : i ∉ readIx ks := by decide) :
    WA X n c Γ es fun ks Γ1 => Γ1 = Γ ∧ ∃ ps, pars Γ ks = some ps ∧ ownIx ks = [] ∧ i ∉ readIx ks ∧ StoS S ps Q := wa_of h ⟨rfl, ps, hp, ho, hr, hq⟩
end
/-- a def as the top has left it -/
structure DefAt (K : PySem.W.Frag) (mg : Str → Option Value) (nm : Str) (st : Stmt) (ps : List Str) where
  a : Addr
  fd : FuncData
  F : Fun K nm nm st a fd
  m : mg nm = some (.ref a)
  bb : ∀ us : List Value, us.length = ps.length → bindArgs fd ⟨us, []⟩ = pure (ps.zip us)
theorem DefAt.b {K : PySem.W.Frag} {mg : Str → Option Value} {nm : Str} {st : Stmt} {ps : List Str} (d : DefAt K mg nm st ps) : Binds K d.fd ps [] := .all d.bb
theorem DefAt.cal {X : Cx} {nm : Str} {st : Stmt} {ps : List Str} {k k0 : Nat} {S : Sg} (d : DefAt X.K X.mg nm st ps) (F : FnOk X.prog X.w X.K X.mg X.base CX0 k0 d.a d.fd ps (spOf X.K S)) (h : k0 ≤ k) : CalF X k nm S :=
  ⟨d.a, d.fd, ps, k0, F, h, d.m, d.F.kp, d.b⟩
end DL

end
section
set_option Elab.async false
set_option linter.all false
set_option autoImplicit true
set_option maxRecDepth 10000
set_option maxHeartbeats 400000
namespace DL
open PySem L2
/-! ### what every law shares: the script's store and the draws -/
theorem atI_nat {α : Type} {xs : List α} {i : Nat} {z : α} (h : xs[i]? = some z) : atI xs (i : Int) = some z := by
  have hi := (List.getElem?_eq_some_iff.mp h).1
  unfold atI ixN
  have e1 : ¬ ((i : Int) < 0) := by omega
  have e2 : (i : Int) < (xs.length : Int) := by omega
  simp [e1, e2, h]
theorem at_lst {xs : List D} {i : Nat} {z : D} (h : xs[i]? = some z) : (D.lst xs).at (i : Int) = some z := atI_nat h
theorem at_tup {xs : List D} {i : Nat} {z : D} (h : xs[i]? = some z) : (D.tup xs).at (i : Int) = some z := atI_nat h
section
variable {X : Cx} {n : Nm} {c : Cc} {Γ : SL} {e a b d : Expr} {x y z : D} {pos p p1 : Pos} {nm sn : Str} {S : Sg} {es : List Expr}
/-- list(script) -/
theorem eo_listSc {ns : List Int} (hb : Blt X "list" (.type "list")) (j : Nat) (i : Nat) (hg : Γ[i]? = some (.sc ns) := by rfl) (hi : n.N[i]? = some nm := by rfl) (hv : n.V.contains i = true := by rfl) (hj : n.GN[j]? = some ("list" : Str) := by rfl)
    (he : starEach [.Name nm p1] X.env = (false, eval (.Name nm p1) X.env) :: starEach [] X.env := by exact se_c rfl) (hpl : (backTo pos (starEach [] X.env)).any (·.1) = false := by exact se_any rfl) :
    EO X n c Γ (.Call (.Name "list" p) [.Name nm p1] [] pos) (.lst (ns.map .int)) := by
  have ho : NOk X n c → ∃ r, CallR X (.type "list") r ∧ ∀ Γ σ R H vs (Post : OB → Prop), SOk X.K c Γ σ R H → (∃ a, vs = [.ref a] ∧ SqL X.K R a (ns.map V.int)) → Post (.lst (ns.map .int)) → ∀ Q : VK, (∀ v R' H' o, SOk X.K c Γ σ R' H' → Ex R R' → VOk X.K c Γ σ R' H' (.own o) v → Post o → Q v H') → r vs H Q := fun hn => ⟨_, call_list_of, fun Γ σ R H vs Post s hx p Q q => by
    obtain ⟨a, rfl, h1⟩ := hx
    refine ⟨a, ns.map V.int, rfl, .inl (ex_l s.rh h1), fun l hl => ?_⟩
    have g := s.newOwn (.lst (ns.map V.int)) hl
    refine q _ R _ (.lst (ns.map .int)) (s.grow g) (Ex.refl _) ⟨l, rfl, ⟨_, upd_same, .ints⟩, s.rh.back hl, ?_, fun i o z1 z2 => ?_⟩ p
    · cases z : c.H0 l with
      | none => rfl
      | some u => exact absurd hl (s.pr l (by rw [z]; simp))
    · obtain ⟨w, u1, b, u2, u3, _⟩ := s.sl i _ z1
      rw [z2] at u1; cases u1; cases u2
      exact u3.there hl⟩
  exact .mk fun hn σ R H s Q q => by
    obtain ⟨r, h1, h2⟩ := ho hn
    obtain ⟨g1, g2, g3⟩ := hn.gl j _ hj
    refine (pe_callTy h1 g1 hb.mg hb.bt pWA g3 g2 he hpl).w ((ea_cons (ek_s i hg rfl hi hv) ea_nil he).run hn σ R H s _ fun vs R1 H1 ks Γ1 s1 e1 r1 ⟨xs, gx⟩ => ?_)
    subst xs gx
    obtain ⟨v, ws, rfl, r2, r3⟩ := r1
    cases (show ws = [] from r3)
    obtain ⟨o, w1, a, w2, w3⟩ := s1.sl i _ hg
    have r2' : σ[i]? = some (some v) := r2
    rw [r2'] at w1; cases w1; cases w2
    exact h2 Γ1 σ R1 H1 _ _ s1 ⟨a, rfl, w3⟩ ⟨rfl, rfl⟩ Q fun u R' H' z s' e' r' p' => q u R' H' z Γ1 s' (e1.trans e') r' p'
/-! the promises of the draws -/
abbrev WP (X : Cx) (n : Nm) (c : Cc) (Γ : SL) (e : Expr) (P : D → Prop) : Prop := WE X n c Γ e fun x Γ' => Γ' = Γ ∧ P x
def ST_store : Sg := fun ps Post => ∃ ns : List Int, ps = [.sc ns] ∧ ns.length ≤ 63 ∧ Post (.own .sto) []
def ST_feed : Sg := fun ps Post => ∃ (ns : List Int) (pl : Nat) (great st left cnt : Int), ps = [.own (.lst (stoD ns pl great st left cnt))] ∧ StoreB ns pl great st left cnt ∧ pl < ns.length ∧ Post (.d .non) [.sto]
def ST_mixed : Sg := fun ps Post => ∃ (ns : List Int) (place great st left cnt : Int), ps = [.own (.lst (stoD ns place great st left cnt))] ∧ StoreB ns place great st left cnt ∧ ∀ m : Int, 0 ≤ m → m < 1000000009 → Post (.d (.int m)) [.sto]
def ST_take : Sg := fun ps Post => ∃ many : Int, ps = [.own .sto, .d (.int many)] ∧ Bt 8000 many ∧ ∀ k : Int, 0 ≤ k → k < (if many > 1 then many else 1) → Post (.d (.int k)) [.sto]
def ST_pick : Sg := fun ps Post => ∃ (x : D) (m : Nat), ps = [.own .sto, .w x] ∧ x.len = some m ∧ (∀ z, x = .str z → z.length ≤ sizeLine) ∧ 0 < m ∧ m < 2 ^ 64 ∧ (∀ k : Nat, k < m → ∃ y, x.at k = some y) ∧ ∀ (k : Nat) y, k < m → x.at k = some y → Post (.d y) [.sto]
def ST_size : Sg := fun ps Post => ∃ lo hi : Int, ps = [.own .sto, .d (.int lo), .d (.int hi)] ∧ lo ≤ hi ∧ Bt 7000 lo ∧ Bt 7000 hi ∧ ∀ k : Int, lo ≤ k → k ≤ hi → Post (.d (.int k)) [.sto]
theorem we_st1 {Post : D → SL → Prop} (hc : CalF X n.k nm S) (j i : Nat) (h : WE X n c Γ e fun x Γ1 => Γ1 = Γ ∧ StoS S [.d x] fun r => ∃ y, r.data = some y ∧ Post y Γ)
    (hg : Γ[i]? = some (.own .sto) := by rfl) (hi : n.N[i]? = some sn := by rfl) (hv : n.V.contains i = true := by rfl) (hj : n.GN[j]? = some nm := by rfl)
    (he : starEach (.Name sn p1 :: [e]) X.env = (false, eval (.Name sn p1) X.env) :: starEach [e] X.env := by exact se_c rfl) (he2 : starEach [e] X.env = (false, eval e X.env) :: starEach [] X.env := by exact se_c rfl) (hpl : (backTo pos (starEach [e] X.env)).any (·.1) = false := by exact se_any rfl) : WE X n c Γ (.Call (.Name nm p) [.Name sn p1, e] [] pos) Post :=
  we_sto hc j i (wa_cons (wk_e (h.mono fun x Γ1 ⟨e1, h1⟩ => by
    subst e1
    exact wa_nil ⟨rfl, [.d x], rfl, rfl, by simp [readIx], h1⟩)) he2) hg hi hv hj he hpl
theorem we_st0 {Post : D → SL → Prop} (hc : CalF X n.k nm S) (j i : Nat) (h : StoS S [] fun r => ∃ y, r.data = some y ∧ Post y Γ)
    (hg : Γ[i]? = some (.own .sto) := by rfl) (hi : n.N[i]? = some sn := by rfl) (hv : n.V.contains i = true := by rfl) (hj : n.GN[j]? = some nm := by rfl)
    (he : starEach (.Name sn p1 :: []) X.env = (false, eval (.Name sn p1) X.env) :: starEach [] X.env := by exact se_c rfl) (hpl : (backTo pos (starEach [] X.env)).any (·.1) = false := by exact se_any rfl) : WE X n c Γ (.Call (.Name nm p) [.Name sn p1] [] pos) Post :=
  we_sto hc j i (wa_nil ⟨rfl, [], rfl, rfl, by simp [readIx], h⟩) hg hi hv hj he hpl
/-- a draw below m -/
theorem we_take {Post : D → SL → Prop} (hc : CalF X n.k nm ST_take) (j i : Nat) (h : WE X n c Γ e fun x Γ1 => Γ1 = Γ ∧ ∃ m : Nat, x = .int (m : Int) ∧ 0 < m ∧ Bt 8000 (m : Int) ∧ ∀ k : Nat, k < m → Post (.int (k : Int)) Γ)
    (hg : Γ[i]? = some (.own .sto) := by rfl) (hi : n.N[i]? = some sn := by rfl) (hv : n.V.contains i = true := by rfl) (hj : n.GN[j]? = some nm := by rfl)
    (he : starEach (.Name sn p1 :: [e]) X.env = (false, eval (.Name sn p1) X.env) :: starEach [e] X.env := by exact se_c rfl) (he2 : starEach [e] X.env = (false, eval e X.env) :: starEach [] X.env := by exact se_c rfl) (hpl : (backTo pos (starEach [e] X.env)).any (·.1) = false := by exact se_any rfl) : WE X n c Γ (.Call (.Name nm p) [.Name sn p1, e] [] pos) Post :=
  we_st1 hc j i (h.mono fun x Γ1 ⟨e1, m, e2, h0, hB, hP⟩ => ⟨e1, fun Q q => by
    subst e2
    refine ⟨m, rfl, hB, fun k k0 k1 => q _ ⟨_, rfl, ?_⟩⟩
    have hk : k < (m : Int) := by split at k1 <;> omega
    have := hP k.toNat (by omega)
    rwa [show ((k.toNat : Nat) : Int) = k by omega] at this⟩) hg hi hv hj he he2 hpl
/-- .. of a written number -/
theorem we_takeI {Post : D → SL → Prop} {m : Nat} {jj q1} (hc : CalF X n.k nm ST_take) (j i : Nat) (h : ∀ k : Nat, k < m → Post (.int (k : Int)) Γ) (h0 : 0 < m := by decide) (hB : m < 2 ^ 64 := by decide)
    (hg : Γ[i]? = some (.own .sto) := by rfl) (hi : n.N[i]? = some sn := by rfl) (hv : n.V.contains i = true := by rfl) (hj : n.GN[j]? = some nm := by rfl)
    (he : starEach (.Name sn p1 :: [.Constant (.int (m : Int)) jj q1]) X.env = (false, eval (.Name sn p1) X.env) :: starEach [.Constant (.int (m : Int)) jj q1] X.env := by exact se_c rfl) (he2 : starEach [.Constant (.int (m : Int)) jj q1] X.env = (false, eval (.Constant (.int (m : Int)) jj q1) X.env) :: starEach [] X.env := by exact se_c rfl) (hpl : (backTo pos (starEach [.Constant (.int (m : Int)) jj q1] X.env)).any (·.1) = false := by rfl) : WE X n c Γ (.Call (.Name nm p) [.Name sn p1, .Constant (.int (m : Int)) jj q1] [] pos) Post :=
  we_take hc j i (we_of ev_int ⟨rfl, m, rfl, h0, (show Bt 64 (m : Int) by unfold Bt; omega).mono (by decide), h⟩) hg hi hv hj he he2 hpl
theorem bt64 {m : Nat} (h : m < 2 ^ 64) : Bt 8000 (m : Int) := (show Bt 64 (m : Int) by unfold Bt; omega).mono (by decide)
/-- a draw out of a list or tuple -/
theorem we_pickK {Post : D → SL → Prop} (hc : CalF X n.k nm ST_pick) (j i : Nat) (h : WK X n c Γ e fun k Γ1 => Γ1 = Γ ∧ i ∉ readIx [k] ∧ ∃ x m, pars Γ [k] = some [.w x] ∧ ownIx [k] = [] ∧ x.len = some m ∧ (∀ z, x = .str z → z.length ≤ sizeLine) ∧ 0 < m ∧ m < 2 ^ 64 ∧ (∀ k : Nat, k < m → ∃ y, x.at k = some y) ∧ ∀ (k : Nat) y, k < m → x.at k = some y → Post y Γ)
    (hg : Γ[i]? = some (.own .sto) := by rfl) (hi : n.N[i]? = some sn := by rfl) (hv : n.V.contains i = true := by rfl) (hj : n.GN[j]? = some nm := by rfl)
    (he : starEach (.Name sn p1 :: [e]) X.env = (false, eval (.Name sn p1) X.env) :: starEach [e] X.env := by exact se_c rfl) (he2 : starEach [e] X.env = (false, eval e X.env) :: starEach [] X.env := by exact se_c rfl) (hpl : (backTo pos (starEach [e] X.env)).any (·.1) = false := by exact se_any rfl) : WE X n c Γ (.Call (.Name nm p) [.Name sn p1, e] [] pos) Post :=
  we_sto hc j i (wa_cons (h.mono fun k Γ1 ⟨e1, hr, x, m, h1, h2, h3, h4, h5, h6, h7, h8⟩ => by
    subst e1
    exact wa_nil ⟨rfl, [.w x], h1, h2, hr, fun Q q => ⟨x, m, rfl, h3, h4, h5, h6, h7, fun k y hk hy => q _ ⟨_, rfl, h8 k y hk hy⟩⟩⟩) he2) hg hi hv hj he hpl
/-- .. a written list -/
theorem we_pick {Post : D → SL → Prop} (hc : CalF X n.k nm ST_pick) (j i : Nat) (h : WE X n c Γ e fun x Γ1 => Γ1 = Γ ∧ ∃ ds, x = .lst ds ∧ ds ≠ [] ∧ ds.length < 2 ^ 64 ∧ ∀ y ∈ ds, Post y Γ)
    (hg : Γ[i]? = some (.own .sto) := by rfl) (hi : n.N[i]? = some sn := by rfl) (hv : n.V.contains i = true := by rfl) (hj : n.GN[j]? = some nm := by rfl)
    (he : starEach (.Name sn p1 :: [e]) X.env = (false, eval (.Name sn p1) X.env) :: starEach [e] X.env := by exact se_c rfl) (he2 : starEach [e] X.env = (false, eval e X.env) :: starEach [] X.env := by exact se_c rfl) (hpl : (backTo pos (starEach [e] X.env)).any (·.1) = false := by exact se_any rfl) : WE X n c Γ (.Call (.Name nm p) [.Name sn p1, e] [] pos) Post :=
  we_pickK hc j i (wk_v (h.mono fun x Γ1 ⟨e1, ds, e2, h1, h2, h3⟩ => by
    subst e2
    refine ⟨e1, by simp [readIx], .lst ds, ds.length, rfl, rfl, rfl, fun z e => (by cases e), List.length_pos_iff.mpr h1, h2, fun k hk => ⟨_, at_lst (List.getElem?_eq_getElem hk)⟩, fun k y hk hy => ?_⟩
    rw [at_lst (List.getElem?_eq_getElem hk)] at hy
    cases hy
    exact h3 _ (List.getElem_mem hk))) hg hi hv hj he he2 hpl
/-- .. a list in a slot -/
theorem we_pickS {Post : D → SL → Prop} {s2 : Slot} {ds : List D} {q1 : Pos} {tn : Str} (hc : CalF X n.k nm ST_pick) (j i l : Nat) (hs : Γ[l]? = some s2) (hd : s2.data = some (.lst ds)) (hil : l ≠ i) (h1 : ds ≠ []) (h2 : ds.length < 2 ^ 64) (h3 : ∀ y ∈ ds, Post y Γ) (hv2 : s2.set = true := by rfl) (hns : ∀ ns, s2 ≠ .sc ns := by intro _ z; cases z)
    (hl : n.N[l]? = some tn := by rfl) (hvl : n.V.contains l = true := by rfl)
    (hg : Γ[i]? = some (.own .sto) := by rfl) (hi : n.N[i]? = some sn := by rfl) (hv : n.V.contains i = true := by rfl) (hj : n.GN[j]? = some nm := by rfl)
    (he : starEach (.Name sn p1 :: [.Name tn q1]) X.env = (false, eval (.Name sn p1) X.env) :: starEach [.Name tn q1] X.env := by exact se_c rfl) (he2 : starEach [.Name tn q1] X.env = (false, eval (.Name tn q1) X.env) :: starEach [] X.env := by exact se_c rfl) (hpl : (backTo pos (starEach [.Name tn q1] X.env)).any (·.1) = false := by exact se_any rfl) : WE X n c Γ (.Call (.Name nm p) [.Name sn p1, .Name tn q1] [] pos) Post :=
  we_pickK hc j i (wk_ek (ek_s l hs hv2 hl hvl) ⟨rfl, by simp [readIx]; exact fun z => hil z.symm, .lst ds, ds.length, by
    show (match AK.par Γ (.s l), some [] with | some x, some xs => some (x :: xs) | _, _ => none) = _
    simp only [AK.par, hs]
    cases s2 with
    | sc ns => exact absurd rfl (hns ns)
    | _ => rw [hd]; rfl, rfl, rfl, fun z e => (by cases e), List.length_pos_iff.mpr h1, h2, fun k hk => ⟨_, at_lst (List.getElem?_eq_getElem hk)⟩, fun k y hk hy => by
    rw [at_lst (List.getElem?_eq_getElem hk)] at hy
    cases hy
    exact h3 _ (List.getElem_mem hk)⟩) hg hi hv hj he he2 hpl
end
end DL

end
section
set_option Elab.async false
set_option linter.all false
set_option autoImplicit true
set_option maxRecDepth 10000
set_option maxHeartbeats 400000
namespace DL
open PySem L2
/-! ### plain things: free of dicts, of so much depth -/
def D.pl : Nat → D → Prop
  | _, .non => True
  | _, .bl _ => True
  | _, .int _ => True
  | k + 1, .lst ds => ds.length ≤ 100000 ∧ ∀ d ∈ ds, D.pl k d
  | k + 1, .tup ds => ds.length ≤ 100000 ∧ ∀ d ∈ ds, D.pl k d
  | _, _ => False
theorem D.pl.mono : ∀ {j k : Nat} {d : D}, j ≤ k → D.pl j d → D.pl k d
  | j, k, .non, _, _ => by cases k <;> trivial
  | j, k, .bl _, _, _ => by cases k <;> trivial
  | j, k, .int _, _, _ => by cases k <;> trivial
  | j, k, .str _, _, h => by cases j <;> exact h.elim
  | 0, k, .lst _, _, h => h.elim
  | 0, k, .tup _, _, h => h.elim
  | j, k, .dic _, _, h => by cases j <;> exact h.elim
  | j + 1, 0, .lst ds, e, h => by omega
  | j + 1, 0, .tup ds, e, h => by omega
  | j + 1, k + 1, .lst ds, e, h => ⟨h.1, fun d hd => D.pl.mono (Nat.le_of_succ_le_succ e) (h.2 d hd)⟩
  | j + 1, k + 1, .tup ds, e, h => ⟨h.1, fun d hd => D.pl.mono (Nat.le_of_succ_le_succ e) (h.2 d hd)⟩
def D.isI : D → Bool
  | .int _ => true
  | _ => false
theorem isI_ty (x : D) : (tyB x.ty "int" && !tyB x.ty "bool") = x.isI := by cases x <;> simp [tyB, D.ty, D.isI]
def ST_isint : Sg := fun ps Post => ∃ x, ps = [.w x] ∧ Post (.d (.bl x.isI)) []
def ST_same (k : Nat) : Sg := fun ps Post => ∃ v d, ps = [.w v, .w d] ∧ d.pl k ∧ ∀ b : Bool, (b = true ↔ v = d) → Post (.d (.bl b)) []
def ST_copy (k : Nat) : Sg := fun ps Post => ∃ x, ps = [.w x] ∧ x.pl k ∧ (∀ ds, x = .lst ds → Post (.own (.lst ds)) []) ∧ ((∀ ds, x ≠ .lst ds) → Post (.d x) [])
theorem atB {α : Type} {xs : List α} {i : Nat} (h : i < xs.length) : xs[i]? = some xs[i] := List.getElem?_eq_getElem h
theorem take_succ {α : Type} {xs ys : List α} {i : Nat} (h : xs.take i = ys.take i) (e : xs[i]? = ys[i]?) : xs.take (i + 1) = ys.take (i + 1) := by
  rw [List.take_succ, List.take_succ, h, e]
theorem ty_non {x : D} (h : x.isN = true) : x = .non := by cases x <;> first | rfl | cases h
theorem ty_bool {x : D} (h : tyB x.ty "bool" = true) : ∃ b, x = .bl b := by cases x <;> simp [tyB, D.ty] at h ⊢
theorem ty_int {x : D} (h : tyB x.ty "int" = true) (h2 : tyB x.ty "bool" = false) : ∃ b, x = .int b := by cases x <;> simp [tyB, D.ty] at h h2 ⊢
theorem ty_str {x : D} (h : tyB x.ty "str" = true) : ∃ b, x = .str b := by cases x <;> simp [tyB, D.ty] at h ⊢
theorem ty_dict {x : D} (h : tyB x.ty "dict" = true) : ∃ b, x = .dic b := by cases x <;> simp [tyB, D.ty] at h ⊢
theorem ty_list {x : D} (h : tyB x.ty "list" = true) : ∃ b, x = .lst b := by cases x <;> simp [tyB, D.ty] at h ⊢
theorem ty_tuple {x : D} (h : tyB x.ty "tuple" = true) : ∃ b, x = .tup b := by cases x <;> simp [tyB, D.ty] at h ⊢
theorem isI_of {x : D} (h : x.isI = true) : ∃ b, x = .int b := by cases x <;> simp [D.isI] at h ⊢
theorem ScOk.k {sc : Scope} {n : Nm} (h : ScOk sc n) (k : Nat) : ScOk sc { n with k := k } := ⟨h.1, h.2, h.3, h.4, h.5, h.6⟩
/-- two lists or two tuples side by side -/
theorem same_seq {v d : D} (h1 : d.isN = false) (h2 : tyB d.ty "bool" = false) (h3 : tyB d.ty "int" = false) (h4 : tyB d.ty "str" = false) (h5 : tyB d.ty "dict" = false) (h6 : (tyB d.ty "list" && !tyB v.ty "list") = false) (h7 : (tyB d.ty "tuple" && !tyB v.ty "tuple") = false) :
    ∃ vs ds : List D, (v = d ↔ vs = ds) ∧ v.len = some vs.length ∧ d.len = some ds.length ∧ (∀ z, v ≠ .str z) ∧ (∀ z, d ≠ .str z) ∧ (∀ (k : Nat) y, vs[k]? = some y → v.at (k : Int) = some y) ∧ (∀ (k : Nat) y, ds[k]? = some y → d.at (k : Int) = some y) ∧ (∀ k, d.pl (k + 1) → ds.length ≤ 100000 ∧ ∀ y ∈ ds, y.pl k) ∧ (¬ d.pl 0) := by
  cases d with
  | lst ds =>
    have : tyB v.ty "list" = true := by simpa [tyB, D.ty] using h6
    obtain ⟨vs, rfl⟩ := ty_list this
    exact ⟨vs, ds, by simp, rfl, rfl, (fun z e => by cases e), (fun z e => by cases e), fun k y h => at_lst h, fun k y h => at_lst h, fun k h => h, fun h => h⟩
  | tup ds =>
    have : tyB v.ty "tuple" = true := by simpa [tyB, D.ty] using h7
    obtain ⟨vs, rfl⟩ := ty_tuple this
    exact ⟨vs, ds, by simp, rfl, rfl, (fun z e => by cases e), (fun z e => by cases e), fun k y h => at_tup h, fun k y h => at_tup h, fun k h => h, fun h => h⟩
  | _ => simp [tyB, D.ty, D.isN] at h1 h2 h3 h4 h5
/-! numbers: a fraction's parts, its signs -/
def D.isF : D → Bool
  | .tup [.int n, .int d] => decide (0 < d) && decide (Int.gcd n d = 1)
  | _ => false
theorem isF_q (q : Rat) : (qD q).isF = true := by
  have h := q.reduced
  simp only [qD, D.isF, Bool.and_eq_true, decide_eq_true_eq]
  exact ⟨den_pos' q, by simpa [Int.gcd, Nat.Coprime] using h⟩
theorem fr_eq {n d : Int} (h : d ≠ 0) : (fr n d).num = d.sign * n / (Int.gcd d n : Nat) ∧ (fr n d).den = d.natAbs / Int.gcd d n := by
  unfold fr
  rw [Rat.num_divInt, Rat.den_divInt, if_neg h]
  exact ⟨rfl, rfl⟩
theorem frac_div {n d : Int} (h : d ≠ 0) : n.fdiv (if d < 0 then 0 - (Int.gcd n d : Nat) else (Int.gcd n d : Nat)) = (fr n d).num ∧ d.fdiv (if d < 0 then 0 - (Int.gcd n d : Nat) else (Int.gcd n d : Nat)) = ((fr n d).den : Int) := by
  obtain ⟨e1, e2⟩ := fr_eq (n := n) h
  rw [e1, e2, Int.gcd_comm d n]
  have g0 : Int.gcd n d ≠ 0 := fun z => h (Int.gcd_eq_zero_iff.mp z).2
  have d1 : ((Int.gcd n d : Nat) : Int) ∣ n := Int.gcd_dvd_left ..
  have d2 : ((Int.gcd n d : Nat) : Int) ∣ d := Int.gcd_dvd_right ..
  have e3 : ((d.natAbs / Int.gcd n d : Nat) : Int) = (d.natAbs : Int) / ((Int.gcd n d : Nat) : Int) := Int.natCast_ediv _ _
  rw [e3]
  split
  · rename_i hd
    rw [Int.sign_eq_neg_one_of_neg hd, Int.zero_sub, Int.fdiv_eq_ediv_of_dvd (Int.neg_dvd.mpr d1), Int.fdiv_eq_ediv_of_dvd (Int.neg_dvd.mpr d2), Int.ediv_neg, Int.ediv_neg, show (-1 : Int) * n = -n by omega, Int.neg_ediv_of_dvd d1, show ((d.natAbs : Nat) : Int) = -d by omega, Int.neg_ediv_of_dvd d2]
    exact ⟨rfl, rfl⟩
  · rename_i hd
    rw [Int.sign_eq_one_of_pos (by omega), Int.fdiv_eq_ediv_of_dvd d1, Int.fdiv_eq_ediv_of_dvd d2, Int.one_mul, show ((d.natAbs : Nat) : Int) = d by omega]
    exact ⟨rfl, rfl⟩
theorem fr_zero (n : Int) : fr n 0 = 0 := Rat.divInt_zero n
def ST_frac : Sg := fun ps Post => ∃ n d : Int, ps = [.d (.int n), .d (.int d)] ∧ Bt 80000 n ∧ Bt 8000 d ∧ Post (.d (qD (fr n d))) []
def ST_2 (f : Rat → Rat → Rat) : Sg := fun ps Post => ∃ (a b : Rat) (j k : Nat), ps = [.w (qD a), .w (qD b)] ∧ Sz j a ∧ Sz k b ∧ j + k ≤ 7900 ∧ Post (.d (qD (f a b))) []
def ST_below : Sg := fun ps Post => ∃ (a b : Rat) (j k : Nat), ps = [.w (qD a), .w (qD b)] ∧ Sz j a ∧ Sz k b ∧ j + k ≤ 7900 ∧ Post (.d (.bl (decide (a < b)))) []
/-- the law's own fraction test, of a pair of numbers -/
def ST_isfrac : Sg := fun ps Post => ∃ x, ps = [.w x] ∧ (∃ (q : Rat), x = qD q ∧ Sz 7900 q) ∧ Post (.d (.bl true)) []
theorem fr_add (a b : Rat) : fr (a.num * (b.den : Int) + b.num * (a.den : Int)) ((a.den : Int) * (b.den : Int)) = a + b := by
  unfold fr
  conv => rhs; rw [← Rat.num_divInt_den a, ← Rat.num_divInt_den b]
  rw [Rat.divInt_add_divInt _ _ (by have := den_pos' a; omega) (by have := den_pos' b; omega)]
theorem fr_sub (a b : Rat) : fr (a.num * (b.den : Int) - b.num * (a.den : Int)) ((a.den : Int) * (b.den : Int)) = a - b := by
  unfold fr
  conv => rhs; rw [← Rat.num_divInt_den a, ← Rat.num_divInt_den b]
  rw [Rat.divInt_sub_divInt _ _ (by have := den_pos' a; omega) (by have := den_pos' b; omega)]
theorem fr_mul (a b : Rat) : fr (a.num * b.num) ((a.den : Int) * (b.den : Int)) = a * b := by
  unfold fr
  conv => rhs; rw [← Rat.num_divInt_den a, ← Rat.num_divInt_den b]
  rw [Rat.divInt_mul_divInt _ _]
theorem fr_gt0 {n d : Int} (hn : 0 < n) (hd : 0 < d) : 0 < fr n d := by
  obtain ⟨m, rfl⟩ := Int.eq_ofNat_of_zero_le (Int.le_of_lt hd)
  rw [Rat.lt_iff_le_and_ne]
  refine ⟨(Rat.divInt_nonneg_iff_of_pos_right hd).mpr (by omega), fun z => ?_⟩
  have z' : fr n (m : Int) = 0 := z.symm
  have : (fr n (m : Int)).num = 0 := by rw [z']; rfl
  obtain ⟨e1, _⟩ := fr_eq (n := n) (d := (m : Int)) (by omega)
  rw [e1, Int.sign_eq_one_of_pos hd, Int.one_mul] at this
  have d1 : ((Int.gcd (m : Int) n : Nat) : Int) ∣ n := Int.gcd_dvd_right ..
  have h3 := Int.ediv_mul_cancel d1
  rw [this, Int.zero_mul] at h3
  omega
theorem qD_fr {n d : Int} (hd : 0 < d) (h : Int.gcd d n = 1) : D.tup [.int n, .int d] = qD (fr n d) := by
  obtain ⟨e1, e2⟩ := fr_eq (n := n) (d := d) (by omega)
  rw [h] at e1 e2
  rw [Int.sign_eq_one_of_pos hd, Int.one_mul] at e1
  have e1' : (fr n d).num = n := by rw [e1]; simp
  have e2' : ((fr n d).den : Int) = d := by rw [e2]; simp; omega
  rw [qD, e1', e2']
theorem qD_one (n : Int) : D.tup [.int n, .int 1] = qD (fr n 1) := qD_fr (by decide) (by simp)
theorem fr_one (n : Int) : fr n 1 = (n : Rat) := by
  have := Rat.num_divInt_den (n : Rat)
  simpa [fr] using this
section
variable {X : Cx} {n : Nm} {c : Cc} {Γ : SL} {e a b d : Expr} {x y z : D} {pos p p1 : Pos} {nm sn : Str} {S : Sg} {es : List Expr}
theorem we_add {Post : D → SL → Prop} (h : WE X n c Γ a fun x Γ1 => ∃ i, x = .int i ∧ WE X n c Γ1 b fun y Γ2 => ∃ j, y = .int j ∧ Post (.int (i + j)) Γ2) : WE X n c Γ (.BinOp a .Add b pos) Post :=
  we_bin dop_add (wk_e (h.mono fun x Γ1 ⟨i, e1, h1⟩ => wk_e (h1.mono fun y Γ2 ⟨j, e2, h2⟩ => ⟨x, y, rfl, rfl, i, j, e1, e2, trivial, h2⟩)))
theorem we_sub {Post : D → SL → Prop} (h : WE X n c Γ a fun x Γ1 => ∃ i, x = .int i ∧ WE X n c Γ1 b fun y Γ2 => ∃ j, y = .int j ∧ Post (.int (i - j)) Γ2) : WE X n c Γ (.BinOp a .Sub b pos) Post :=
  we_bin dop_sub (wk_e (h.mono fun x Γ1 ⟨i, e1, h1⟩ => wk_e (h1.mono fun y Γ2 ⟨j, e2, h2⟩ => ⟨x, y, rfl, rfl, i, j, e1, e2, trivial, h2⟩)))
/-- c + a draw -/
theorem we_addL {Post : D → SL → Prop} {i : Int} (ha : EV X n c Γ a (.int i)) (h : WE X n c Γ b fun y Γ2 => ∃ j, y = .int j ∧ Post (.int (i + j)) Γ2) : WE X n c Γ (.BinOp a .Add b pos) Post := we_add (we_of ha ⟨i, rfl, h⟩)
/-- a draw - c -/
theorem we_subR {Post : D → SL → Prop} {i : Int} (h : WE X n c Γ a fun x Γ1 => Γ1 = Γ ∧ ∃ j, x = .int j ∧ Post (.int (j - i)) Γ) (hb : EV X n c Γ b (.int i)) : WE X n c Γ (.BinOp a .Sub b pos) Post := we_sub (h.mono fun x Γ1 ⟨e1, j, e2, h2⟩ => ⟨j, e2, by subst e1; exact we_of hb ⟨i, rfl, h2⟩⟩)
theorem we_call2 {Post : D → SL → Prop} (hc : CalF X n.k nm S) (j : Nat) (h : WE X n c Γ a fun x Γ1 => WE X n c Γ1 b fun y Γ2 => S [.d x, .d y] fun r os => ∃ z, r.data = some z ∧ Post z Γ2) (hj : n.GN[j]? = some nm := by rfl)
    (he : starEach [a, b] X.env = (false, eval a X.env) :: starEach [b] X.env := by exact se_c rfl) (he2 : starEach [b] X.env = (false, eval b X.env) :: starEach [] X.env := by exact se_c rfl) (hpl : (backTo pos (starEach [b] X.env)).any (·.1) = false := by exact se_any rfl) : WE X n c Γ (.Call (.Name nm p) [a, b] [] pos) Post :=
  we_call hc j (wa_cons (wk_e (h.mono fun x Γ1 h1 => wa_cons (wk_e (h1.mono fun y Γ2 h2 => wa_nil ⟨[.d x, .d y], rfl, List.nodup_nil, by simp [readIx], h2⟩)) he2)) he) hj he hpl
theorem we_call2v {Post : D → SL → Prop} (hc : CalF X n.k nm S) (j : Nat) (h : WE X n c Γ a fun x Γ1 => WE X n c Γ1 b fun y Γ2 => S [.w x, .w y] fun r os => ∃ z, r.data = some z ∧ Post z Γ2) (hj : n.GN[j]? = some nm := by rfl)
    (he : starEach [a, b] X.env = (false, eval a X.env) :: starEach [b] X.env := by exact se_c rfl) (he2 : starEach [b] X.env = (false, eval b X.env) :: starEach [] X.env := by exact se_c rfl) (hpl : (backTo pos (starEach [b] X.env)).any (·.1) = false := by exact se_any rfl) : WE X n c Γ (.Call (.Name nm p) [a, b] [] pos) Post :=
  we_call hc j (wa_cons (wk_v (h.mono fun x Γ1 h1 => wa_cons (wk_v (h1.mono fun y Γ2 h2 => wa_nil ⟨[.w x, .w y], rfl, List.nodup_nil, by simp [readIx], h2⟩)) he2)) he) hj he hpl
/-- a written fraction -/
theorem ev_tup2 {i j : Int} {x1} (ha : EV X n c Γ a (.int i)) (hb : EV X n c Γ b (.int j)) (he : starEach [a, b] X.env = (false, eval a X.env) :: starEach [b] X.env := by exact se_c rfl) (he2 : starEach [b] X.env = (false, eval b X.env) :: starEach [] X.env := by exact se_c rfl) : EV X n c Γ (.Tuple [a, b] x1 pos) (.tup [.int i, .int j]) := ev_tup (ea_cons (ek_d ha) (ea_cons (ek_d hb) ea_nil he2) he)
theorem ev_q {i j : Int} {x1} (ha : EV X n c Γ a (.int i)) (hb : EV X n c Γ b (.int j)) (hd : 0 < j := by decide) (hg : Int.gcd j i = 1 := by decide) (he : starEach [a, b] X.env = (false, eval a X.env) :: starEach [b] X.env := by exact se_c rfl) (he2 : starEach [b] X.env = (false, eval b X.env) :: starEach [] X.env := by exact se_c rfl) : EV X n c Γ (.Tuple [a, b] x1 pos) (qD (fr i j)) := by
  rw [← qD_fr hd hg]
  exact ev_tup2 ha hb he he2
end
def ST_ratio : Sg := fun ps Post => ∃ top : Int, ps = [.own .sto, .d (.int top)] ∧ 1 ≤ top ∧ top < 2 ^ 40 ∧ ∀ q, Sz 41 q → Post (.d (qD q)) [.sto]
def ST_draw (P : Rat → Prop) : Sg := fun ps Post => ps = [.own .sto] ∧ ∀ q, P q → Post (.d (qD q)) [.sto]
theorem bt_of {k : Nat} {i : Int} (h1 : -(2 ^ k : Int) < i) (h2 : i < (2 ^ k : Int)) : Bt k i := by
  unfold Bt
  have e : ((2 ^ k : Nat) : Int) = (2 : Int) ^ k := by simp
  omega
section
variable {X : Cx} {n : Nm} {c : Cc} {Γ : SL} {e a b d : Expr} {pos p p1 : Pos} {nm sn : Str} {S : Sg}
theorem we_draw {Post : D → SL → Prop} {P : Rat → Prop} (hc : CalF X n.k nm (ST_draw P)) (j i : Nat) (h : ∀ q, P q → Post (qD q) Γ)
    (hg : Γ[i]? = some (.own .sto) := by rfl) (hi : n.N[i]? = some sn := by rfl) (hv : n.V.contains i = true := by rfl) (hj : n.GN[j]? = some nm := by rfl)
    (he : starEach (.Name sn p1 :: []) X.env = (false, eval (.Name sn p1) X.env) :: starEach [] X.env := by exact se_c rfl) (hpl : (backTo pos (starEach [] X.env)).any (·.1) = false := by exact se_any rfl) : WE X n c Γ (.Call (.Name nm p) [.Name sn p1] [] pos) Post :=
  we_st0 hc j i (fun Q q => ⟨rfl, fun r hr => q _ ⟨_, rfl, h r hr⟩⟩) hg hi hv hj he hpl
theorem we_ratio {Post : D → SL → Prop} {top : Int} (hc : CalF X n.k nm ST_ratio) (j i : Nat) (ha : EV X n c Γ e (.int top)) (h1 : 1 ≤ top) (h2 : top < 2 ^ 40) (h : ∀ q, Sz 41 q → Post (qD q) Γ)
    (hg : Γ[i]? = some (.own .sto) := by rfl) (hi : n.N[i]? = some sn := by rfl) (hv : n.V.contains i = true := by rfl) (hj : n.GN[j]? = some nm := by rfl)
    (he : starEach (.Name sn p1 :: [e]) X.env = (false, eval (.Name sn p1) X.env) :: starEach [e] X.env := by exact se_c rfl) (he2 : starEach [e] X.env = (false, eval e X.env) :: starEach [] X.env := by exact se_c rfl) (hpl : (backTo pos (starEach [e] X.env)).any (·.1) = false := by exact se_any rfl) : WE X n c Γ (.Call (.Name nm p) [.Name sn p1, e] [] pos) Post :=
  we_st1 hc j i (we_of ha ⟨rfl, fun Q q => ⟨top, rfl, h1, h2, fun r hr => q _ ⟨_, rfl, h r hr⟩⟩⟩) hg hi hv hj he he2 hpl
end
section
variable {X : Cx} {n : Nm} {c : Cc} {Γ : SL} {e a b d : Expr} {pos p p1 : Pos} {nm sn : Str} {S : Sg} {x : D}
/-- a name whose thing can not be changed by anyone -/
def D.fix : D → Bool
  | .lst _ => false
  | .dic _ => false
  | _ => true
theorem ev_fix (i : Nat) {sl : Slot} (hg : Γ[i]? = some sl := by rfl) (hs : sl.data = some x := by rfl) (hf : x.fix = true := by rfl) (hi : n.N[i]? = some nm := by rfl) (hv : n.V.contains i = true := by rfl) : EV X n c Γ (.Name nm pos) x := .mk fun hn σ R H s Q q => by
  obtain ⟨h1, h2⟩ := hn.dbg i nm hi
  refine (pe_var (i := i) (by rw [hn.eq]; exact hi) (hn.vis i nm hv hi) h1 h2).w ?_
  obtain ⟨o, e1, h⟩ := s.sl i _ hg
  obtain ⟨v, e2, r⟩ := h.wk hs
  subst e2
  refine ⟨v, e1, q v R H x Γ s (Ex.refl _) ?_ ⟨rfl, rfl⟩⟩
  rcases r with r | ⟨a, vs, es, h3, h4, _⟩ | ⟨a, vs, es, h3, h4, _⟩
  · exact r
  · subst h4; cases hf
  · subst h4; cases hf
end
/-! ### courses -/
abbrev Pc := Rat × Rat × Rat
abbrev pD (p : Pc) : D := .tup [qD p.1, qD p.2.1, qD p.2.2]
abbrev cD (c : List Pc) : D := .lst (c.map pD)
def pline (p : Pc) (t : Rat) : Rat := p.2.1 + p.2.2 * (t - p.1)
/-- sizes of a course: starts, readings, paces -/
def Cz (s t r : Nat) (c : List Pc) : Prop := ∀ p ∈ c, Sz s p.1 ∧ Sz t p.2.1 ∧ Sz r p.2.2
theorem cD_at {c : List Pc} {i : Nat} {p : Pc} (h : c[i]? = some p) : (cD c).at (i : Int) = some (pD p) := at_lst (by rw [List.getElem?_map, h]; rfl)
theorem pD_0 (p : Pc) : (pD p).at 0 = some (qD p.1) := rfl
theorem pD_1 (p : Pc) : (pD p).at 1 = some (qD p.2.1) := rfl
theorem pD_2 (p : Pc) : (pD p).at 2 = some (qD p.2.2) := rfl
end DL

end
section
set_option Elab.async false
set_option linter.all false
set_option autoImplicit true
set_option maxRecDepth 10000
set_option maxHeartbeats 400000
namespace DL
open PySem L2
section
variable {X : Cx} {n : Nm} {c : Cc} {Γ : SL} {e a b d : Expr} {pos p p1 ap pos2 : Pos} {nm sn : Str} {S : Sg} {x : D} {De : DE}
theorem ws_append (i : Nat) {ob : OB} (h : WE X n c Γ e fun x Γ' => ∃ ds, Γ'[i]? = some (.own (.lst ds)) ∧ ds.length < 1000000 ∧ De.nx (Γ'.set i (.own (.lst (ds ++ [x]))))) (hg : Γ[i]? = some (.own ob) := by rfl) (hL : ob.isL = true := by rfl) (hi : n.N[i]? = some nm := by rfl) (hv : n.V.contains i = true := by rfl)
    (hbase : attributeBase (.Name nm p) "append" X.env (eval (.Name nm p) X.env) = eval (.Name nm p) X.env := by rfl)
    (hline : (ap.endLine == pos.line) = true := by rfl) (hst : isStar e = false := by rfl)
    (hs : swapsWith (.Call (.Attribute (.Name nm p) "append" ap) [e] [] pos) none pos2.line X.env = pure false := by rfl) : WS X n c Γ (.Expr (.Call (.Attribute (.Name nm p) "append" ap) [e] [] pos) pos2) De :=
  ws_expr (we_meth i dm_append PySem.F.plainAttrs_list PySem.F.slot_list_append PySem.F.type_list_append (wa_cons (wk_e (h.mono fun x Γ' ⟨ds, h1, h2, h3⟩ => wa_nil ⟨[x], ds, rfl, h1, x, rfl, h2, h3⟩)) (se_c hst)) hg hL hi hv hbase (by rw [se_c hst]; rfl) hline (se_c hst) rfl) hs
theorem ws_insert (i : Nat) {ob : OB} (h : WE X n c Γ a fun y Γ1 => ∃ j : Nat, y = .int (j : Int) ∧ j < 2 ^ 62 ∧ WE X n c Γ1 e fun x Γ' => ∃ ds, Γ'[i]? = some (.own (.lst ds)) ∧ ds.length < 1000000 ∧ De.nx (Γ'.set i (.own (.lst (ds.take j ++ [x] ++ ds.drop j))))) (hg : Γ[i]? = some (.own ob) := by rfl) (hL : ob.isL = true := by rfl) (hi : n.N[i]? = some nm := by rfl) (hv : n.V.contains i = true := by rfl)
    (hbase : attributeBase (.Name nm p) "insert" X.env (eval (.Name nm p) X.env) = eval (.Name nm p) X.env := by rfl)
    (hline : (ap.endLine == pos.line) = true := by rfl) (hst : isStar a = false := by rfl) (hst2 : isStar e = false := by rfl)
    (hs : swapsWith (.Call (.Attribute (.Name nm p) "insert" ap) [a, e] [] pos) none pos2.line X.env = pure false := by rfl) : WS X n c Γ (.Expr (.Call (.Attribute (.Name nm p) "insert" ap) [a, e] [] pos) pos2) De :=
  ws_expr (we_meth i dm_insert PySem.F.plainAttrs_list PySem.F.slot_list_insert PySem.F.type_list_insert (wa_cons (wk_e (h.mono fun y Γ1 ⟨j, e1, hj, h1⟩ => wa_cons (wk_e (h1.mono fun x Γ' ⟨ds, h1, h2, h3⟩ => wa_nil ⟨[y, x], ds, rfl, h1, j, x, by rw [e1], by omega, by omega, h2, h3⟩)) (se_c hst2))) (se_c hst)) hg hL hi hv hbase (by rw [se_c hst, se_c hst2]; rfl) hline (se_c hst) (by rw [se_c hst2]; rfl)) hs
end
theorem own2 {A : Slot} {r : SL} {x y : List D} (h : x = y) : (A :: Slot.own (.lst x) :: r) = A :: Slot.own (.lst y) :: r := by rw [h]
theorem scC_k {sc : Scope} {n : Nm} (k : Nat) (h : scC sc { n with k := k } = true) : scC sc n = true := h
/-! ### pieces side by side -/
def prs : List Pc → List (Pc × Pc)
  | p :: q :: r => (p, q) :: prs (q :: r)
  | _ => []
theorem prs_len : ∀ c : List Pc, (prs c).length = c.length - 1
  | [] => rfl
  | [_] => rfl
  | p :: q :: r => by simp [prs, prs_len (q :: r)]
theorem prs_at : ∀ {c : List Pc} {i : Nat} {p q : Pc}, c[i]? = some p → c[i + 1]? = some q → (prs c)[i]? = some (p, q)
  | [], i, p, q, h, _ => by simp at h
  | [_], i, p, q, _, h => by simp at h
  | u :: v :: r, 0, p, q, h, h' => by simp at h h'; subst h h'; rfl
  | u :: v :: r, i + 1, p, q, h, h' => by
    simp only [prs, List.getElem?_cons_succ]
    exact prs_at (by simpa using h) (by simpa using h')
def jmp (p q : Pc) : Rat := q.2.1 - pline p q.1
def jF (x : Pc × Pc) : Option (Rat × Rat) := if jmp x.1 x.2 = 0 then none else some (x.2.1, jmp x.1 x.2)
def tF (x : Pc × Pc) : Option Pc := if x.2.2.2 = x.1.2.2 ∧ jmp x.1 x.2 = 0 then none else some x.2
def jumpsQ (c : List Pc) : List (Rat × Rat) := (prs c).filterMap jF
def tidyQ (c : List Pc) : List Pc := c.take 1 ++ (prs c).filterMap tF
abbrev jD (x : Rat × Rat) : D := .tup [qD x.1, qD x.2]
theorem fm_step {α β : Type} {f : α → Option β} {xs : List α} {i : Nat} {x : α} (h : xs[i]? = some x) : (xs.take (i + 1)).filterMap f = (xs.take i).filterMap f ++ (f x).toList := by
  rw [List.take_succ, h, List.filterMap_append]
  cases e : f x <;> simp [e]
theorem cmp_ne {a b : Rat} : (!decide (cmpQ a b = 0)) = !decide (a = b) := by
  unfold cmpQ
  by_cases h1 : a < b
  · have : a ≠ b := fun e => by rw [e] at h1; exact Rat.lt_irrefl h1
    simp [h1, this]
  · by_cases h2 : b < a
    · have : a ≠ b := fun e => by rw [e] at h2; exact Rat.lt_irrefl h2
      simp [h1, h2, this]
    · have : a = b := Rat.le_antisymm (Rat.not_lt.mp h2) (Rat.not_lt.mp h1)
      simp [h1, h2, this]
theorem cmp_eq {a b : Rat} : decide (cmpQ a b = 0) = decide (a = b) := by
  have := cmp_ne (a := a) (b := b)
  simpa using this
/-- a def of the program over a course -/
def Cw (s t r : Nat) (c : List Pc) : Prop := Cz s t r c ∧ 8 * s + 3 * t + 3 * r + 60 ≤ 7900 ∧ c.length ≤ 100000
theorem Cz.at {s t r : Nat} {c : List Pc} {i : Nat} {p : Pc} (h : Cz s t r c) (e : c[i]? = some p) : Sz s p.1 ∧ Sz t p.2.1 ∧ Sz r p.2.2 := h p (List.mem_of_getElem? e)
theorem pline_sz {s t r w : Nat} {p : Pc} {x : Rat} (h : Sz s p.1 ∧ Sz t p.2.1 ∧ Sz r p.2.2) (hx : Sz w x) : Sz (t + (r + (w + s + 1)) + 1) (pline p x) := h.2.1.add (h.2.2.mul (hx.sub h.1))
theorem jmp_sz {s t r : Nat} {p q : Pc} (h : Sz s p.1 ∧ Sz t p.2.1 ∧ Sz r p.2.2) (h' : Sz s q.1 ∧ Sz t q.2.1 ∧ Sz r q.2.2) : Sz (t + (t + (r + (s + s + 1)) + 1) + 1) (jmp p q) := h'.2.1.sub (pline_sz h h'.1)
def ST_line : Sg := fun ps Post => ∃ (p : Pc) (t : Rat) (s u v w : Nat), ps = [.d (pD p), .d (qD t)] ∧ (Sz s p.1 ∧ Sz u p.2.1 ∧ Sz v p.2.2) ∧ Sz w t ∧ s + u + v + w + 10 ≤ 8000 ∧ Post (.d (qD (pline p t))) []
def ST_jump : Sg := fun ps Post => ∃ (c : List Pc) (i : Nat) (p q : Pc) (s t r : Nat), ps = [.w (cD c), .d (.int ((i : Int) + 1))] ∧ c[i]? = some p ∧ c[i + 1]? = some q ∧ Cw s t r c ∧ Post (.d (qD (jmp p q))) []
def ST_course (F : List Pc → OB) : Sg := fun ps Post => ∃ (c : List Pc) (s t r : Nat), ps = [.w (cD c)] ∧ c ≠ [] ∧ Cw s t r c ∧ Post (.own (F c)) []
/-! what a course shows at a time -/
def oD : Option Rat → D
  | none => .non
  | some q => qD q
def past (t : Rat) (p : Pc) : Bool := !decide (t < p.1)
def nowQ (c : List Pc) (t : Rat) : Option Rat := ((c.filter (past t)).getLast?).map fun p => pline p t
def Asc (c : List Pc) : Prop := c.Pairwise fun p q => p.1 < q.1
def ST_now : Sg := fun ps Post => ∃ (c : List Pc) (x : Rat) (s t r w : Nat), ps = [.w (cD c), .w (qD x)] ∧ Cz s t r c ∧ Sz w x ∧ s + t + r + w + 30 ≤ 7900 ∧ c.length ≤ 100000 ∧ Post (.d (oD (nowQ c x))) []
def ST_coming : Sg := fun ps Post => ∃ (c : List Pc) (i : Nat) (p q : Pc) (s t r : Nat), ps = [.w (cD c), .d (.int ((i : Int) + 1))] ∧ c[i]? = some p ∧ c[i + 1]? = some q ∧ Cw s t r c ∧ Asc c ∧ Post (.d (qD (pline p q.1))) []
theorem flt_step {α : Type} {f : α → Bool} {xs : List α} {i : Nat} {x : α} (h : xs[i]? = some x) : (xs.take (i + 1)).filter f = (xs.take i).filter f ++ (if f x then [x] else []) := by
  rw [List.take_succ, h, List.filter_append]
  cases e : f x <;> simp [e]
theorem asc_past {c : List Pc} (ha : Asc c) {i : Nat} {p : Pc} {t : Rat} (hp : c[i]? = some p) (h1 : p.1 ≤ t) (h2 : ∀ q, c[i + 1]? = some q → t < q.1) : c.filter (past t) = c.take (i + 1) := by
  have e : c = c.take (i + 1) ++ c.drop (i + 1) := (List.take_append_drop _ _).symm
  have hi := (List.getElem?_eq_some_iff.mp hp).1
  have hpw := ha
  unfold Asc at hpw
  rw [List.pairwise_iff_getElem] at hpw
  have ep : c[i] = p := (List.getElem?_eq_some_iff.mp hp).2
  conv => lhs; rw [e]
  rw [List.filter_append, List.filter_eq_self.mpr, List.filter_eq_nil_iff.mpr, List.append_nil]
  · intro q hq
    obtain ⟨k, hk, e2⟩ := List.mem_iff_getElem.mp hq
    rw [List.getElem_drop] at e2
    have hk' : i + 1 + k < c.length := by rw [List.length_drop] at hk; omega
    have h3 : t < q.1 := by
      have h4 := h2 _ (atB (xs := c) (i := i + 1) (by omega))
      rcases Nat.eq_zero_or_pos k with z | z
      · subst z; rw [← e2]; exact h4
      · have := hpw (i + 1) (i + 1 + k) (by omega) hk' (by omega)
        rw [e2] at this
        grind
    simp [past, h3]
  · intro q hq
    obtain ⟨k, hk, e2⟩ := List.mem_iff_getElem.mp hq
    rw [List.getElem_take] at e2
    have hk' : k < i + 1 := by rw [List.length_take] at hk; omega
    have h3 : q.1 ≤ p.1 := by
      rcases Nat.lt_or_ge k i with z | z
      · have := hpw k i (by omega) hi z
        rw [e2, ep] at this
        grind
      · have : k = i := by omega
        subst this
        rw [← e2, ep]; grind
    have : ¬ t < q.1 := by grind
    simp [past, this]
theorem now_at {c : List Pc} (ha : Asc c) {i : Nat} {p : Pc} {t : Rat} (hp : c[i]? = some p) (h1 : p.1 ≤ t) (h2 : ∀ q, c[i + 1]? = some q → t < q.1) : nowQ c t = some (pline p t) := by
  have hi := (List.getElem?_eq_some_iff.mp hp).1
  unfold nowQ
  rw [asc_past ha hp h1 h2, List.take_succ, hp]
  simp
theorem asc_lt {c : List Pc} (ha : Asc c) {i j : Nat} {p q : Pc} (hp : c[i]? = some p) (hq : c[j]? = some q) (h : i < j) : p.1 < q.1 := by
  have hpw := ha
  unfold Asc at hpw
  rw [List.pairwise_iff_getElem] at hpw
  obtain ⟨a1, a2⟩ := List.getElem?_eq_some_iff.mp hp
  obtain ⟨b1, b2⟩ := List.getElem?_eq_some_iff.mp hq
  have := hpw i j a1 b1 h
  rwa [a2, b2] at this
theorem coming_eq (p q : Pc) : pline p ((p.1 + q.1) * fr 1 2) + pline p ((p.1 + q.1) * fr 1 2) - pline p p.1 = pline p q.1 := by
  have e : fr 1 2 = 1 / 2 := by decide +kernel
  rw [e]
  unfold pline
  grind
theorem mid_lt {p q : Pc} (h : p.1 < q.1) : p.1 ≤ (p.1 + q.1) * fr 1 2 ∧ (p.1 + q.1) * fr 1 2 < q.1 := by
  have e : fr 1 2 = 1 / 2 := by decide +kernel
  rw [e]
  constructor <;> grind
/-! the law's own readings of a course -/
def ST_courseA (F : List Pc → OB) : Sg := fun ps Post => ∃ (c : List Pc) (s t r : Nat), ps = [.w (cD c)] ∧ c ≠ [] ∧ Cw s t r c ∧ Asc c ∧ Post (.own (F c)) []
theorem num_ne {q : Rat} : (!decide (q.num = 0)) = !decide (q = 0) := by
  have : q.num = 0 ↔ q = 0 := Rat.num_eq_zero
  simp [this]
theorem num_gt {q : Rat} (h : 0 < q) : 0 < q.num := by
  have h1 : 0 ≤ q.num := Rat.num_nonneg.mpr (Rat.le_of_lt h)
  have h2 : q.num ≠ 0 := fun z => by rw [Rat.num_eq_zero.mp z] at h; exact Rat.lt_irrefl h
  omega
/-- does piece i + 1 go on where piece i leads? -/
def cf (c : List Pc) (i : Nat) : Bool := match (prs c)[i]? with
  | some x => (tF x).isNone
  | none => false
def contI (c : List Pc) : List Int := ((List.range (c.length - 1)).filter (cf c)).map fun (i : Nat) => (i : Int) + 1
theorem tF_none {p q : Pc} : (tF (p, q)).isNone = (decide (q.2.2 = p.2.2) && decide (pline p q.1 = q.2.1)) := by
  have e : jmp p q = 0 ↔ pline p q.1 = q.2.1 := by unfold jmp; constructor <;> intro h <;> grind
  unfold tF
  by_cases h1 : q.2.2 = p.2.2 <;> by_cases h2 : pline p q.1 = q.2.1 <;> simp [h1, h2, e]
theorem cont_mem {c : List Pc} {i : Nat} : ((i : Int) + 1) ∈ contI c ↔ cf c i = true ∧ i < c.length - 1 := by
  unfold contI
  simp only [List.mem_map, List.mem_filter, List.mem_range]
  constructor
  · rintro ⟨j, ⟨h1, h2⟩, h3⟩
    have : j = i := by omega
    subst this; exact ⟨h2, h1⟩
  · rintro ⟨h1, h2⟩; exact ⟨i, ⟨h2, h1⟩, rfl⟩
theorem cont_zero {c : List Pc} : (0 : Int) ∉ contI c := by
  unfold contI
  simp only [List.mem_map, not_exists, not_and]
  intro j _; omega
def ST_iscourse : Sg := fun ps Post => ∃ (c : List Pc) (s t r : Nat), ps = [.w (cD c)] ∧ c ≠ [] ∧ Cw s t r c ∧ Asc c ∧ (∀ p ∈ c, 0 < p.2.2) ∧ Post (.d (.bl true)) []
end DL

end
section
set_option Elab.async false
set_option linter.all false
set_option autoImplicit true
set_option maxRecDepth 10000
set_option maxHeartbeats 400000
namespace DL
open PySem L2
def Up (qs : List Rat) : Prop := qs.Pairwise (· < ·)
def ST_ordered : Sg := fun ps Post => ∃ (qs : List Rat) (k : Nat), ps = [.w (.lst (qs.map qD))] ∧ (∀ q ∈ qs, Sz k q) ∧ k ≤ 3900 ∧ qs.length ≤ 100000 ∧ ∀ out, Up out → (∀ q, q ∈ out ↔ q ∈ qs) → out.length ≤ qs.length → Post (.own (.lst (out.map qD))) []
def ST_probes : Sg := fun ps Post => ∃ (qs : List Rat) (k : Nat), ps = [.w (.lst (qs.map fun q => .tup [qD q, .non]))] ∧ (∀ q ∈ qs, Sz k q) ∧ k ≤ 3900 ∧ qs ≠ [] ∧ qs.length ≤ 40000 ∧ ∀ ts : List Rat, (∀ t ∈ ts, Sz (2 * k + 10) t) → (∃ t ∈ ts, ∀ q ∈ qs, q < t) → ts.length ≤ 100000 → Post (.own (.lst (ts.map qD))) []
def ST_alike : Sg := fun ps Post => ∃ (a b : List Pc) (s t r : Nat), ps = [.w (cD a), .w (cD b)] ∧ a ≠ [] ∧ Cw s t r a ∧ Cw s t r b ∧ a.length + b.length ≤ 40000 ∧ ∀ v : Bool, ((∀ x, nowQ a x = nowQ b x) → v = true) → ((∀ x, (∀ p ∈ a ++ b, p.1 < x) → nowQ a x ≠ nowQ b x) → v = false) → Post (.d (.bl v)) []
theorem up_lt {out : List Rat} (h : Up out) {i j : Nat} {p q : Rat} (hp : out[i]? = some p) (hq : out[j]? = some q) (hij : i < j) : p < q := by
  unfold Up at h
  rw [List.pairwise_iff_getElem] at h
  obtain ⟨a1, a2⟩ := List.getElem?_eq_some_iff.mp hp
  obtain ⟨b1, b2⟩ := List.getElem?_eq_some_iff.mp hq
  have := h i j a1 b1 hij
  rwa [a2, b2] at this
/-- so many are below x -/
def Spot (out : List Rat) (x : Rat) (k s : Nat) : Prop := s ≤ k ∧ ∀ j q, j < k → out[j]? = some q → (q < x ↔ j < s)
theorem Spot.zero {out : List Rat} {x : Rat} : Spot out x 0 0 := ⟨Nat.le_refl _, fun j q h => absurd h (by omega)⟩
theorem Spot.yes {out : List Rat} {x y : Rat} {k s : Nat} (hu : Up out) (h : Spot out x k s) (hy : out[k]? = some y) (hl : y < x) : Spot out x (k + 1) (k + 1) := by
  refine ⟨Nat.le_refl _, fun j q hj hq => ⟨fun _ => hj, fun _ => ?_⟩⟩
  rcases Nat.lt_or_ge j k with z | z
  · have := up_lt hu hq hy z; grind
  · have : j = k := by omega
    subst this; rw [hy] at hq; cases hq; exact hl
theorem Spot.no {out : List Rat} {x y : Rat} {k s : Nat} (h : Spot out x k s) (hy : out[k]? = some y) (hl : ¬ y < x) : Spot out x (k + 1) s := by
  refine ⟨by have := h.1; omega, fun j q hj hq => ?_⟩
  rcases Nat.lt_or_ge j k with z | z
  · exact h.2 j q z hq
  · have : j = k := by omega
    subst this; rw [hy] at hq; cases hq
    exact ⟨fun z => absurd z hl, fun z => absurd z (by have := h.1; omega)⟩
theorem Spot.ins {out : List Rat} {x : Rat} {s : Nat} (hu : Up out) (h : Spot out x out.length s) (hx : ∀ y, out[s]? = some y → y ≠ x) : Up (out.take s ++ [x] ++ out.drop s) := by
  unfold Up
  have e : out = out.take s ++ out.drop s := (List.take_append_drop _ _).symm
  have h1 : ∀ y ∈ out.take s, y < x := fun y hy => by
    obtain ⟨j, hj, e2⟩ := List.mem_iff_getElem.mp hy
    rw [List.length_take] at hj
    rw [List.getElem_take] at e2
    have hj2 : out[j]? = some y := by rw [← e2]; exact atB (by omega)
    exact (h.2 j y (by omega) hj2).mpr (by omega)
  have h2 : ∀ y ∈ out.drop s, x < y := fun y hy => by
    obtain ⟨j, hj, e2⟩ := List.mem_iff_getElem.mp hy
    rw [List.length_drop] at hj
    rw [List.getElem_drop] at e2
    have hj2 : out[s + j]? = some y := by rw [← e2]; exact atB (by omega)
    have h0 := atB (xs := out) (i := s) (by omega)
    have a1 : ¬ out[s] < x := fun z => absurd ((h.2 s _ (by omega) h0).mp z) (by omega)
    have a2 := hx _ h0
    have a3 : x < out[s] := by grind
    rcases Nat.eq_zero_or_pos j with z | z
    · subst z; rw [Nat.add_zero, h0] at hj2; cases hj2; exact a3
    · have := up_lt hu h0 hj2 (by omega); grind
  have hp := hu
  unfold Up at hp
  rw [e, List.pairwise_append] at hp
  rw [List.append_assoc, List.pairwise_append]
  refine ⟨hp.1, ?_, fun a ha b hb => ?_⟩
  · show List.Pairwise (· < ·) (x :: out.drop s)
    rw [List.pairwise_cons]
    exact ⟨h2, hp.2.1⟩
  · have hb' : b = x ∨ b ∈ out.drop s := by simpa using hb
    rcases hb' with rfl | hb'
    · exact h1 a ha
    · have := h1 a ha; have := h2 b hb'; grind
theorem eqv_o (a b : Option Rat) : (oD a).eqv (oD b) = decide (a = b) := by
  cases a <;> cases b
  · rfl
  · simp [oD, D.eqv, D.pd, PyData.eqv]
  · simp [oD, D.eqv, D.pd, PyData.eqv]
  · rw [oD, oD, eqv_q]; simp
theorem shp_o (a : Option Rat) : (oD a).shp = true := by
  cases a
  · rfl
  · exact shp_q _
theorem own3 {A B : Slot} {r : SL} {x y : List D} (h : x = y) : (A :: B :: Slot.own (.lst x) :: r) = A :: B :: Slot.own (.lst y) :: r := by rw [h]
theorem own4 {A B C : Slot} {r : SL} {x y : List D} (h : x = y) : (A :: B :: C :: Slot.own (.lst x) :: r) = A :: B :: C :: Slot.own (.lst y) :: r := by rw [h]
theorem up_last {out : List Rat} (hu : Up out) {z q : Rat} (hz : out[out.length - 1]? = some z) (hq : q ∈ out) : q ≤ z := by
  obtain ⟨j, hj, e⟩ := List.mem_iff_getElem.mp hq
  have h1 : out[j]? = some q := by rw [← e]; exact atB hj
  rcases Nat.lt_or_ge j (out.length - 1) with h | h
  · have := up_lt hu h1 hz h; grind
  · have : j = out.length - 1 := by omega
    rw [← this, h1] at hz; cases hz; grind
theorem qat {out : List Rat} {j : Nat} {y : Rat} (h : out[j]? = some y) : (D.lst (out.map qD)).at (j : Int) = some (qD y) := at_lst (by rw [List.getElem?_map, h]; rfl)
theorem sz_one : Sz 1 (fr 1 1) := fr_sz (bt_of (by decide) (by decide)) (bt_of (by decide) (by decide)) (by decide)
theorem sz_half : Sz 2 (fr 1 2) := fr_sz (bt_of (by decide) (by decide)) (bt_of (by decide) (by decide)) (by decide)
theorem one_gt (z : Rat) : z < z + fr 1 1 := by
  have e : fr 1 1 = 1 := by decide +kernel
  rw [e]; grind
end DL

end
section
set_option Elab.async false
set_option linter.all false
set_option autoImplicit true
set_option maxRecDepth 10000
set_option maxHeartbeats 400000
namespace DL
open PySem L2
/-! ### fractions over a common line -/
def Sd (N n : Nat) (q : Rat) : Prop := q.den ∣ N ∧ Bt n q.num
theorem fr_dvd {n d : Int} {N : Nat} (h : d ≠ 0) (hd : d.natAbs ∣ N) : (fr n d).den ∣ N := by
  rw [(fr_eq (n := n) h).2]
  exact Nat.dvd_trans (Nat.div_dvd_of_dvd (Nat.gcd_dvd_left _ _)) hd
theorem over_N {q : Rat} {N : Nat} (h : q.den ∣ N) (h0 : N ≠ 0) : ∃ x : Int, q = fr x (N : Int) := by
  obtain ⟨m, rfl⟩ := h
  refine ⟨q.num * m, ?_⟩
  have hm : (m : Int) ≠ 0 := by
    intro z
    have : m = 0 := by omega
    subst this; simp at h0
  unfold fr
  have := Rat.divInt_mul_right (n := q.num) (d := (q.den : Int)) hm
  rw [Int.natCast_mul, this, Rat.num_divInt_den]
theorem add_den {a b : Rat} {N : Nat} (ha : a.den ∣ N) (hb : b.den ∣ N) (h0 : N ≠ 0) : (a + b).den ∣ N := by
  obtain ⟨x, rfl⟩ := over_N ha h0
  obtain ⟨y, rfl⟩ := over_N hb h0
  have hN : (N : Int) ≠ 0 := by omega
  have e : fr x (N : Int) + fr y (N : Int) = fr (x + y) (N : Int) := by
    unfold fr
    rw [Rat.divInt_add_divInt _ _ hN hN, ← Int.add_mul, Rat.divInt_mul_right hN]
  rw [e]
  exact fr_dvd hN (by simp)
theorem Sd.add {N n m k L : Nat} {a b : Rat} (ha : Sd N n a) (hb : Sd N m b) (h0 : N ≠ 0) (hL : N < 2 ^ L) (hn : n ≤ k) (hm : m ≤ k) : Sd N (k + L + 1) (a + b) := by
  refine ⟨add_den ha.1 hb.1 h0, ?_⟩
  have bd : ∀ {q : Rat}, q.den ∣ N → Bt L (q.den : Int) := fun h => by
    have := Nat.le_of_dvd (by omega) h
    show ((_ : Nat) : Int).natAbs < _
    rw [Int.natAbs_natCast]; omega
  have hn : Bt (k + L + 1) (a.num * (b.den : Int) + b.num * (a.den : Int)) := ((ha.2.mono hn).mul (bd hb.1)).add ((hb.2.mono hm).mul (bd ha.1))
  refine Nat.lt_of_le_of_lt ?_ hn
  rw [Rat.num_add, Int.natAbs_ediv_of_dvd (Int.ofNat_dvd_left.2 (Nat.gcd_dvd_left ..))]
  exact Nat.div_le_self _ _
theorem Sd.neg {N n : Nat} {a : Rat} (h : Sd N n a) : Sd N n (-a) := ⟨h.1, by rw [Rat.neg_num]; exact h.2.neg⟩
theorem Sd.sub {N n m k L : Nat} {a b : Rat} (ha : Sd N n a) (hb : Sd N m b) (h0 : N ≠ 0) (hL : N < 2 ^ L) (hn : n ≤ k) (hm : m ≤ k) : Sd N (k + L + 1) (a - b) := by
  rw [Rat.sub_eq_add_neg]; exact ha.add hb.neg h0 hL hn hm
theorem Sd.mul {N M n m : Nat} {a b : Rat} (ha : Sd N n a) (hb : Sd M m b) : Sd (N * M) (n + m) (a * b) := by
  refine ⟨?_, ?_⟩
  · rw [Rat.den_mul]
    exact Nat.dvd_trans (Nat.div_dvd_of_dvd (Nat.gcd_dvd_right ..)) (Nat.mul_dvd_mul ha.1 hb.1)
  · refine Nat.lt_of_le_of_lt ?_ (ha.2.mul hb.2)
    rw [Rat.num_mul, Int.natAbs_ediv_of_dvd (Int.ofNat_dvd_left.2 (Nat.gcd_dvd_left ..))]
    exact Nat.div_le_self _ _
theorem Sd.mono {N M n m : Nat} {a : Rat} (h : Sd N n a) (hN : N ∣ M) (hn : n ≤ m) : Sd M m a := ⟨Nat.dvd_trans h.1 hN, h.2.mono hn⟩
theorem Sd.sz {N n k : Nat} {a : Rat} (h : Sd N n a) (h0 : N ≠ 0) (hN : N < 2 ^ k) (hn : n ≤ 8 * k) : Sz k a := ⟨h.2.mono hn, by have := Nat.le_of_dvd (by omega) h.1; omega⟩
/-- drawn times, steps, paces -/
def PPart (q : Rat) : Prop := Sd 60 24 q
def PStep (q : Rat) : Prop := Sd 60 24 q ∧ 0 < q
def PPace (q : Rat) : Prop := Sd 27720 32 q ∧ 0 < q
abbrev N2 : Nat := 26611200
/-- a drawn course's piece -/
def GP (N a b : Nat) (p : Pc) : Prop := Sd N a p.1 ∧ Sd N2 b p.2.1 ∧ PPace p.2.2
theorem Asc.snoc {c : List Pc} {p : Pc} (h : Asc c) (hp : ∀ x ∈ c, x.1 < p.1) : Asc (c ++ [p]) := by
  unfold Asc
  rw [List.pairwise_append]
  exact ⟨h, List.pairwise_singleton _ _, fun a ha b hb => by
    have : b = p := by simpa using hb
    rw [this]; exact hp a ha⟩
theorem lt_plus {a b : Rat} (h : 0 < b) : a < a + b := by grind
def ST_drawcourse : Sg := fun ps Post => ∃ (m : Nat) (fall : Bool), ps = [.own .sto, .d (.int (m : Int)), .d (.bl fall)] ∧ m ≤ 40 ∧ ∀ c : List Pc, c.length = m → Asc c → (∀ p ∈ c, GP 60 (24 + 10 * m) (60 + 120 * m) p) → Post (.own (.lst (c.map pD))) [.sto]
def ST_wide : Sg := fun ps Post => ps = [.own .sto] ∧ ∀ c : List Pc, c ≠ [] → c.length ≤ 3 → Asc c → (∀ p ∈ c, 0 < p.2.2) → Cz 41 41 41 c → Post (.own (.lst (c.map pD))) [.sto]
theorem up_asc {f : Rat → Rat × Rat} : ∀ {qs : List Rat}, Up qs → Asc (qs.map fun q => (q, f q))
  | [], _ => List.Pairwise.nil
  | q :: qs, h => by
    obtain ⟨h1, h2⟩ := List.pairwise_cons.mp h
    refine List.pairwise_cons.mpr ⟨fun p hp => ?_, up_asc h2⟩
    obtain ⟨x, hx, rfl⟩ := List.mem_map.mp hp
    exact h1 x hx
theorem abs_q {q : Rat} (h : q.num ≠ 0) : D.tup [.int (if (if q.num < 0 then -q.num else q.num) > 1 then (if q.num < 0 then -q.num else q.num) else 1), .int (q.den : Int)] = qD (fr (q.num.natAbs : Int) (q.den : Int)) := by
  have e : (if (if q.num < 0 then -q.num else q.num) > 1 then (if q.num < 0 then -q.num else q.num) else 1) = (q.num.natAbs : Int) := by split <;> split <;> omega
  rw [e]
  refine qD_fr (den_pos' q) ?_
  have := q.reduced
  rw [Int.gcd_comm]
  simpa [Int.gcd, Nat.Coprime] using this
/-- a piece is put behind piece i, on its line -/
def CutS (c d : List Pc) : Prop := ∃ (i : Nat) (p : Pc) (w : Rat), c[i]? = some p ∧ p.1 < w ∧ (∀ q, c[i + 1]? = some q → w < q.1) ∧ d = c.take (i + 1) ++ [(w, pline p w, p.2.2)] ++ c.drop (i + 1)
inductive Cut (c : List Pc) : Nat → List Pc → Prop
  | z : Cut c 0 c
  | s {i : Nat} {d e : List Pc} : Cut c i d → CutS d e → Cut c (i + 1) e
theorem CutS.len {c d : List Pc} (h : CutS c d) : d.length = c.length + 1 := by
  obtain ⟨i, p, w, h1, _, _, rfl⟩ := h
  have := (List.getElem?_eq_some_iff.mp h1).1
  simp only [List.length_append, List.length_take, List.length_drop, List.length_singleton]; omega
theorem CutS.asc {c d : List Pc} (ha : Asc c) (h : CutS c d) : Asc d := by
  obtain ⟨i, p, w, h1, h2, h3, rfl⟩ := h
  have hp := ha
  unfold Asc at hp ⊢
  rw [← List.take_append_drop (i + 1) c, List.pairwise_append] at hp
  rw [List.append_assoc, List.pairwise_append]
  have a1 : ∀ y ∈ c.take (i + 1), y.1 < w := fun y hy => by
    obtain ⟨j, hj, e2⟩ := List.mem_iff_getElem.mp hy
    rw [List.length_take] at hj
    rw [List.getElem_take] at e2
    have hj2 : c[j]? = some y := by rw [← e2]; exact atB (by omega)
    rcases Nat.lt_or_ge j i with z | z
    · have := asc_lt ha hj2 h1 z; grind
    · have : j = i := by omega
      rw [this, h1] at hj2; cases hj2; exact h2
  have a2 : ∀ y ∈ c.drop (i + 1), w < y.1 := fun y hy => by
    obtain ⟨j, hj, e2⟩ := List.mem_iff_getElem.mp hy
    rw [List.length_drop] at hj
    rw [List.getElem_drop] at e2
    have hj2 : c[i + 1 + j]? = some y := by rw [← e2]; exact atB (by omega)
    have h0 := atB (xs := c) (i := i + 1) (by omega)
    have h4 := h3 _ h0
    rcases Nat.eq_zero_or_pos j with z | z
    · rw [z, Nat.add_zero, h0] at hj2; cases hj2; exact h4
    · have := asc_lt ha h0 hj2 (by omega); grind
  refine ⟨hp.1, ?_, fun a hx b hb => ?_⟩
  · show List.Pairwise _ (_ :: c.drop (i + 1))
    exact List.pairwise_cons.mpr ⟨a2, hp.2.1⟩
  · have hb' : b = (w, pline p w, p.2.2) ∨ b ∈ c.drop (i + 1) := by simpa using hb
    rcases hb' with rfl | hb'
    · exact a1 a hx
    · have := a1 a hx; have := a2 b hb'; grind
theorem CutS.mem {c d : List Pc} (h : CutS c d) : ∃ (p : Pc) (w : Rat), p ∈ c ∧ d.Perm ((w, pline p w, p.2.2) :: c) := by
  obtain ⟨i, p, w, h1, h2, h3, rfl⟩ := h
  refine ⟨p, w, List.mem_of_getElem? h1, ?_⟩
  rw [List.append_assoc]
  refine List.perm_middle.trans ?_
  show (_ :: (c.take (i + 1) ++ c.drop (i + 1))).Perm _
  rw [List.take_append_drop]
def ST_cutup : Sg := fun ps Post => ∃ (c : List Pc) (m : Nat), ps = [.own .sto, .w (.lst (c.map pD)), .d (.int (m : Int))] ∧ m ≤ 4 ∧ c ≠ [] ∧ c.length ≤ 14 ∧ Asc c ∧ (∀ p ∈ c, GP 60 400 2000 p) ∧ ∀ d, Cut c m d → Asc d → d.length = c.length + m → (∀ p ∈ d, GP 960 640 2800 p) → Post (.own (.lst (d.map pD))) [.sto]
end DL

end
section
set_option Elab.async false
set_option linter.all false
set_option autoImplicit true
set_option maxRecDepth 10000
set_option maxHeartbeats 400000
namespace DL
open PySem L2
/-! ### plain law: tidied courses -/
/-- on one line -/
def SLn (p q : Pc) : Prop := q.2.2 = p.2.2 ∧ ∀ t, pline p t = pline q t
theorem SLn.symm {p q : Pc} (h : SLn p q) : SLn q p := ⟨h.1.symm, fun t => (h.2 t).symm⟩
theorem sln_of {p q : Pc} (h1 : q.2.2 = p.2.2) (h2 : jmp p q = 0) : SLn p q := ⟨h1, fun t => by
  unfold jmp at h2
  unfold pline at h2 ⊢
  rw [h1]; grind⟩
theorem SLn.jmp {p q : Pc} (h : SLn p q) : jmp p q = 0 := by
  unfold DL.jmp
  rw [h.2 q.1]
  unfold pline
  grind
theorem SLn.j {p p' q : Pc} (h : SLn p p') : DL.jmp p q = DL.jmp p' q := by unfold DL.jmp; rw [h.2]
theorem SLn.tF {p p' q : Pc} (h : SLn p p') : tF (p, q) = DL.tF (p', q) := by unfold DL.tF; rw [h.j, h.1]
theorem SLn.jF {p p' q : Pc} (h : SLn p p') : jF (p, q) = DL.jF (p', q) := by unfold DL.jF; rw [h.j]
theorem SLn.t0 {p q : Pc} (h : SLn p q) : DL.tF (p, q) = none := by unfold DL.tF; simp [h.1, h.jmp]
theorem SLn.j0 {p q : Pc} (h : SLn p q) : DL.jF (p, q) = none := by unfold DL.jF; simp [h.jmp]
theorem t0_sln {p q : Pc} (h : DL.tF (p, q) = none) : SLn p q := by
  unfold DL.tF at h
  split at h
  · rename_i h'; exact sln_of h'.1 h'.2
  · cases h
theorem tF_some {p q x : Pc} (h : DL.tF (p, q) = some x) : x = q := by
  unfold DL.tF at h
  split at h
  · cases h
  · cases h; rfl
def tq (p : Pc) (r : List Pc) : List Pc := (prs (p :: r)).filterMap tF
def jq (p : Pc) (r : List Pc) : List (Rat × Rat) := (prs (p :: r)).filterMap jF
theorem tq_cons (p q : Pc) (r : List Pc) : tq p (q :: r) = (tF (p, q)).toList ++ tq q r := by
  unfold tq
  simp only [prs, List.filterMap_cons]
  cases tF (p, q) <;> rfl
theorem jq_cons (p q : Pc) (r : List Pc) : jq p (q :: r) = (jF (p, q)).toList ++ jq q r := by
  unfold jq
  simp only [prs, List.filterMap_cons]
  cases jF (p, q) <;> rfl
theorem tq_sln {p p' : Pc} (h : SLn p p') : ∀ r, tq p r = tq p' r
  | [] => rfl
  | q :: r => by rw [tq_cons, tq_cons, h.tF]
theorem jq_sln {p p' : Pc} (h : SLn p p') : ∀ r, jq p r = jq p' r
  | [] => rfl
  | q :: r => by rw [jq_cons, jq_cons, h.jF]
theorem tq_idem : ∀ (r : List Pc) (p : Pc), tq p (tq p r) = tq p r
  | [], p => rfl
  | q :: r, p => by
    rw [tq_cons]
    cases e : tF (p, q) with
    | none =>
      show tq p (tq q r) = tq q r
      rw [tq_sln (t0_sln e).symm, tq_idem r p]
    | some x =>
      have := tF_some e
      subst this
      show tq p (x :: tq x r) = x :: tq x r
      rw [tq_cons, e, tq_idem r x]; rfl
theorem jq_tq : ∀ (r : List Pc) (p : Pc), jq p (tq p r) = jq p r
  | [], p => rfl
  | q :: r, p => by
    rw [tq_cons, jq_cons]
    cases e : tF (p, q) with
    | none =>
      show jq p (tq q r) = _
      rw [tq_sln (t0_sln e).symm, jq_tq r p, (t0_sln e).j0, jq_sln (t0_sln e)]; rfl
    | some x =>
      have := tF_some e
      subst this
      show jq p (x :: tq x r) = _
      rw [jq_cons, jq_tq r x]
theorem tq_sub : ∀ (r : List Pc) (p : Pc), (tq p r).Sublist r
  | [], p => List.Sublist.refl _
  | q :: r, p => by
    rw [tq_cons]
    cases e : tF (p, q) with
    | none => exact (tq_sub r q).cons _
    | some x =>
      have := tF_some e
      subst this
      exact (tq_sub r x).cons_cons _
theorem now_app (a b : List Pc) (t : Rat) : nowQ (a ++ b) t = (nowQ b t).or (nowQ a t) := by
  unfold nowQ
  rw [List.filter_append, List.getLast?_append]
  cases (b.filter (past t)).getLast? <;> rfl
theorem now_two {p q : Pc} (h : SLn p q) (hl : p.1 < q.1) (t : Rat) : nowQ [p, q] t = nowQ [p] t := by
  unfold nowQ
  by_cases h1 : t < p.1
  · have h2 : t < q.1 := by grind
    simp [past, h1, h2]
  · by_cases h2 : t < q.1
    · simp [past, h1, h2]
    · simp [past, h1, h2, h.2]
theorem now_tq : ∀ (r : List Pc) (p : Pc) (t : Rat), Asc (p :: r) → nowQ (p :: tq p r) t = nowQ (p :: r) t
  | [], p, t, _ => rfl
  | q :: r, p, t, ha => by
    obtain ⟨h1, h2⟩ := List.pairwise_cons.mp ha
    rw [tq_cons]
    have e2 : nowQ (p :: q :: r) t = (nowQ (q :: r) t).or (nowQ [p] t) := now_app [p] (q :: r) t
    cases e : tF (p, q) with
    | none =>
      show nowQ (p :: tq q r) t = _
      have hs := t0_sln e
      obtain ⟨h3, h4⟩ := List.pairwise_cons.mp h2
      have ha' : Asc (p :: r) := List.pairwise_cons.mpr ⟨fun x hx => h1 x (List.mem_cons_of_mem _ hx), h4⟩
      rw [tq_sln hs.symm, now_tq r p t ha']
      have e3 : nowQ (p :: q :: r) t = (nowQ r t).or (nowQ [p, q] t) := now_app [p, q] r t
      have e4 : nowQ (p :: r) t = (nowQ r t).or (nowQ [p] t) := now_app [p] r t
      rw [e3, e4, now_two hs (h1 q List.mem_cons_self)]
    | some x =>
      have := tF_some e
      subst this
      show nowQ (p :: x :: tq x r) t = _
      have e5 : nowQ (p :: x :: tq x r) t = (nowQ (x :: tq x r) t).or (nowQ [p] t) := now_app [p] (x :: tq x r) t
      rw [e5, e2, now_tq r x t h2]
theorem prs_app : ∀ (a : List Pc) (p : Pc) (b : List Pc), prs (a ++ p :: b) = prs (a ++ [p]) ++ prs (p :: b)
  | [], p, b => rfl
  | [x], p, b => rfl
  | x :: y :: a, p, b => by
    show (x, y) :: prs (y :: a ++ p :: b) = (x, y) :: prs (y :: a ++ [p]) ++ _
    rw [prs_app (y :: a) p b]; rfl
theorem tidy_cons (p : Pc) (r : List Pc) : tidyQ (p :: r) = p :: tq p r := rfl
theorem jumps_cons (p : Pc) (r : List Pc) : jumpsQ (p :: r) = jq p r := rfl
theorem tidy_idem {c : List Pc} : tidyQ (tidyQ c) = tidyQ c := by
  cases c with
  | nil => rfl
  | cons p r => rw [tidy_cons, tidy_cons, tq_idem]
theorem jumps_tidy {c : List Pc} : jumpsQ (tidyQ c) = jumpsQ c := by
  cases c with
  | nil => rfl
  | cons p r => rw [tidy_cons, jumps_cons, jumps_cons, jq_tq]
theorem now_tidy {c : List Pc} (ha : Asc c) (t : Rat) : nowQ (tidyQ c) t = nowQ c t := by
  cases c with
  | nil => rfl
  | cons p r => rw [tidy_cons]; exact now_tq r p t ha
theorem tidy_sub (c : List Pc) : (tidyQ c).Sublist c := by
  cases c with
  | nil => exact List.Sublist.refl _
  | cons p r => rw [tidy_cons]; exact (tq_sub r p).cons_cons _
theorem tidy_ne {c : List Pc} (h : c ≠ []) : tidyQ c ≠ [] := by
  cases c with
  | nil => exact absurd rfl h
  | cons p r => rw [tidy_cons]; exact List.cons_ne_nil _ _
theorem fm_all {α β : Type} {f : α → Option β} : ∀ {xs : List α}, (xs.filterMap f).length = xs.length → ∀ x ∈ xs, (f x).isNone = false
  | [], _, x, hx => by cases hx
  | y :: xs, h, x, hx => by
    have hl := List.length_filterMap_le f xs
    cases e : f y with
    | none =>
      rw [List.filterMap_cons, e] at h
      simp only [List.length_cons] at h; omega
    | some z =>
      rw [List.filterMap_cons, e] at h
      simp only [List.length_cons] at h
      rcases List.mem_cons.mp hx with rfl | hx
      · rw [e]; rfl
      · exact fm_all (by omega) x hx
theorem cont_tidy {c : List Pc} : contI (tidyQ c) = [] := by
  cases c with
  | nil => rfl
  | cons p r =>
    rw [tidy_cons]
    have hl : ((prs (p :: tq p r)).filterMap tF).length = (prs (p :: tq p r)).length := by
      show (tq p (tq p r)).length = _
      rw [tq_idem, prs_len]; rfl
    have ha := fm_all hl
    unfold contI
    rw [List.map_eq_nil_iff, List.filter_eq_nil_iff]
    intro i _
    unfold cf
    cases e : (prs (p :: tq p r))[i]? with
    | none => simp
    | some x =>
      have := ha x (List.mem_of_getElem? e)
      simp [this]
theorem cut_same {c d : List Pc} (h : CutS c d) : tidyQ d = tidyQ c ∧ jumpsQ d = jumpsQ c ∧ ∀ t, nowQ d t = nowQ c t := by
  obtain ⟨i, p, w, h1, h2, h3, rfl⟩ := h
  have hi := (List.getElem?_eq_some_iff.mp h1).1
  have et : c.take (i + 1) = c.take i ++ [p] := by rw [List.take_succ, h1]; rfl
  have ec : c = c.take i ++ p :: c.drop (i + 1) := by
    conv => lhs; rw [← List.take_append_drop (i + 1) c, et]
    rw [List.append_assoc]; rfl
  have hs : SLn p (w, pline p w, p.2.2) := ⟨rfl, fun t => by
    show _ = pline p w + p.2.2 * (t - w)
    unfold pline; grind⟩
  generalize c.drop (i + 1) = b at ec
  rw [et]
  generalize c.take i = a at ec
  subst ec
  have ed : a ++ [p] ++ [(w, pline p w, p.2.2)] ++ b = a ++ p :: ((w, pline p w, p.2.2) :: b) := by simp
  rw [ed]
  have k1 : tq p ((w, pline p w, p.2.2) :: b) = tq p b := by rw [tq_cons, hs.t0, tq_sln hs]; rfl
  have k2 : jq p ((w, pline p w, p.2.2) :: b) = jq p b := by rw [jq_cons, hs.j0, jq_sln hs]; rfl
  refine ⟨?_, ?_, fun t => ?_⟩
  · unfold tidyQ
    rw [prs_app, prs_app a p b, List.filterMap_append, List.filterMap_append]
    have e1 : (prs (p :: (w, pline p w, p.2.2) :: b)).filterMap tF = (prs (p :: b)).filterMap tF := k1
    rw [e1]
    cases a <;> rfl
  · unfold jumpsQ
    rw [prs_app, prs_app a p b, List.filterMap_append, List.filterMap_append]
    have e1 : (prs (p :: (w, pline p w, p.2.2) :: b)).filterMap jF = (prs (p :: b)).filterMap jF := k2
    rw [e1]
  · have e1 : nowQ (p :: (w, pline p w, p.2.2) :: b) t = (nowQ b t).or (nowQ [p, (w, pline p w, p.2.2)] t) := now_app [p, _] b t
    have e2 : nowQ (p :: b) t = (nowQ b t).or (nowQ [p] t) := now_app [p] b t
    rw [now_app, now_app, e1, e2, now_two hs h2]
theorem cuts_same {c : List Pc} : ∀ {m : Nat} {d : List Pc}, Cut c m d → tidyQ d = tidyQ c ∧ jumpsQ d = jumpsQ c ∧ ∀ t, nowQ d t = nowQ c t
  | _, _, .z => ⟨rfl, rfl, fun _ => rfl⟩
  | _, _, .s h k => by
    obtain ⟨a1, a2, a3⟩ := cuts_same h
    obtain ⟨b1, b2, b3⟩ := cut_same k
    exact ⟨b1.trans a1, b2.trans a2, fun t => (b3 t).trans (a3 t)⟩
/-- what the law takes out by its own list of places -/
theorem gone_step {c : List Pc} {i : Nat} {p q : Pc} (h1 : c[i]? = some p) (h2 : c[i + 1]? = some q) : (tF (p, q)).toList = if (contI c).contains ((i : Int) + 1) then [] else [q] := by
  have hl := (List.getElem?_eq_some_iff.mp h2).1
  have ec : cf c i = (tF (p, q)).isNone := by unfold cf; rw [prs_at h1 h2]
  have hm : (contI c).contains ((i : Int) + 1) = (tF (p, q)).isNone := by
    rw [← ec, Bool.eq_iff_iff, List.contains_iff_mem, cont_mem]
    constructor
    · exact fun h => h.1
    · exact fun h => ⟨h, by omega⟩
  rw [hm]
  cases e : tF (p, q) with
  | none => rfl
  | some x => rw [tF_some e]; rfl
def ST_right : Sg := fun ps Post => ∃ (c : List Pc) (s t r : Nat), ps = [.w (cD c)] ∧ c ≠ [] ∧ Cw s t r c ∧ Asc c ∧ (∀ p ∈ c, 0 < p.2.2) ∧ c.length ≤ 1000 ∧ Post (.d (.bl true)) []
theorem pl_q (k : Nat) (q : Rat) : (qD q).pl (k + 1) := ⟨Nat.le_of_ble_eq_true rfl, fun d hd => by
  have hd' : d = .int q.num ∨ d = .int (q.den : Int) := by simpa using hd
  rcases hd' with rfl | rfl <;> cases k <;> trivial⟩
theorem pl_p (k : Nat) (p : Pc) : (pD p).pl (k + 2) := ⟨Nat.le_of_ble_eq_true rfl, fun d hd => by
  have hd' : d = qD p.1 ∨ d = qD p.2.1 ∨ d = qD p.2.2 := by simpa using hd
  rcases hd' with rfl | rfl | rfl <;> exact pl_q _ _⟩
theorem pl_j (k : Nat) (p : Rat × Rat) : (jD p).pl (k + 2) := ⟨Nat.le_of_ble_eq_true rfl, fun d hd => by
  have hd' : d = qD p.1 ∨ d = qD p.2 := by simpa using hd
  rcases hd' with rfl | rfl <;> exact pl_q _ _⟩
theorem pl_c {c : List Pc} (h : c.length ≤ 100000) : (cD c).pl 5 := ⟨by rw [List.length_map]; exact h, fun d hd => by
  obtain ⟨p, _, rfl⟩ := List.mem_map.mp hd
  exact pl_p 2 p⟩
theorem pl_js {c : List (Rat × Rat)} (h : c.length ≤ 100000) : (D.lst (c.map jD)).pl 5 := ⟨by rw [List.length_map]; exact h, fun d hd => by
  obtain ⟨p, _, rfl⟩ := List.mem_map.mp hd
  exact pl_j 2 p⟩
theorem tidy_cw {s t r : Nat} {c : List Pc} (h : Cw s t r c) : Cw s t r (tidyQ c) := ⟨fun p hp => h.1 p ((tidy_sub c).mem hp), h.2.1, Nat.le_trans (tidy_sub c).length_le h.2.2⟩
theorem jumps_len (c : List Pc) : (jumpsQ c).length ≤ c.length := by
  have := List.length_filterMap_le jF (prs c)
  rw [prs_len] at this
  unfold jumpsQ; omega
def goneA (c : List Pc) (i : Nat) : List Pc := c.take (min i 1) ++ ((prs c).take (i - 1)).filterMap tF
theorem gone_both {c : List Pc} {i : Nat} {q : Pc} (h : c[i]? = some q) : goneA c (i + 1) = goneA c i ++ (if (contI c).contains (i : Int) then [] else [q]) := by
  unfold goneA
  cases i with
  | zero =>
    have h0 : (contI c).contains (((0 : Nat)) : Int) = false := by
      rw [Bool.eq_false_iff]
      intro z
      exact cont_zero (List.contains_iff_mem.mp z)
    rw [h0]
    cases c with
    | nil => simp at h
    | cons a b => simp at h; subst h; rfl
  | succ k =>
    have hk : k < c.length := by have := (List.getElem?_eq_some_iff.mp h).1; omega
    have e1 := atB hk
    have e2 := gone_step e1 h
    rw [show min (k + 1 + 1) 1 = 1 by omega, show min (k + 1) 1 = 1 by omega, show k + 1 + 1 - 1 = k + 1 by omega, show k + 1 - 1 = k by omega, fm_step (prs_at e1 h), e2, List.append_assoc]
    rfl
theorem gone_end {c : List Pc} (h : c ≠ []) : goneA c c.length = tidyQ c := by
  have h0 : 0 < c.length := List.length_pos_iff.mpr h
  unfold goneA tidyQ
  rw [show min c.length 1 = 1 by omega, ← prs_len, List.take_length]
theorem flat_ints {ns : List Int} : (ns.map D.int).all D.flat = true := by
  rw [List.all_map]; exact List.all_eq_true.mpr fun _ _ => rfl
/-! from one place on, every reading moved by so much -/
def turn (c : List Pc) (k : Nat) (by_ : Rat) : List Pc := c.take k ++ (c.drop k).map fun p => (p.1, p.2.1 + by_, p.2.2)
theorem turn_zero {c : List Pc} {k : Nat} : turn c k 0 = c := by
  unfold turn
  have e : (fun p : Pc => (p.1, p.2.1 + 0, p.2.2)) = id := by
    funext p
    simp [Rat.add_zero]
  rw [e, List.map_id, List.take_append_drop]
theorem now_all {c : List Pc} {t : Rat} (h : ∀ p ∈ c, p.1 < t) : nowQ c t = c.getLast?.map fun p => pline p t := by
  unfold nowQ
  rw [List.filter_eq_self.mpr]
  intro p hp
  have := h p hp
  have h2 : ¬ t < p.1 := by grind
  simp [past, h2]
theorem turn_ne {c d : List Pc} {k : Nat} {b t : Rat} (hk : k < c.length) (hb : b ≠ 0) (hn : ∀ x, nowQ c x = nowQ d x) (h : ∀ p ∈ c, p.1 < t) : nowQ (turn c k b) t ≠ nowQ d t := by
  rw [← hn t, now_all h]
  have h2 : ∀ p ∈ turn c k b, p.1 < t := fun p hp => by
    unfold turn at hp
    rcases List.mem_append.mp hp with z | z
    · exact h p (List.mem_of_mem_take z)
    · obtain ⟨q, hq, rfl⟩ := List.mem_map.mp z
      exact h q (List.mem_of_mem_drop hq)
  rw [now_all h2]
  have hne : c.drop k ≠ [] := fun z => by
    have := congrArg List.length z
    rw [List.length_drop] at this; simp at this; omega
  have e1 : (turn c k b).getLast? = ((c.drop k).getLast?).map fun p => (p.1, p.2.1 + b, p.2.2) := by
    unfold turn
    rw [List.getLast?_append, List.getLast?_map]
    cases e : (c.drop k).getLast? with
    | none => exact absurd (List.getLast?_eq_none_iff.mp e) hne
    | some x => rfl
  have e2 : c.getLast? = (c.drop k).getLast? := by
    conv => lhs; rw [← List.take_append_drop k c, List.getLast?_append]
    cases e : (c.drop k).getLast? with
    | none => exact absurd (List.getLast?_eq_none_iff.mp e) hne
    | some x => rfl
  rw [e1, e2]
  cases e : (c.drop k).getLast? with
  | none => exact absurd (List.getLast?_eq_none_iff.mp e) hne
  | some x =>
    intro z
    have z' : pline (x.1, x.2.1 + b, x.2.2) t = pline x t := by simpa using z
    unfold pline at z'
    exact hb (by grind)
theorem gp_cw {c : List Pc} (h : ∀ p ∈ c, GP 960 640 4000 p) (hl : c.length ≤ 1000) : Cw 500 500 500 c := ⟨fun p hp => by
  obtain ⟨h1, h2, h3⟩ := h p hp
  exact ⟨h1.sz (by decide) (Nat.lt_of_lt_of_le (show 960 < 2 ^ 10 by decide) (Nat.pow_le_pow_right (by decide) (by decide))) (by decide), h2.sz (by decide) (Nat.lt_of_lt_of_le (show N2 < 2 ^ 25 by decide) (Nat.pow_le_pow_right (by decide) (by decide))) (by decide), h3.1.sz (by decide) (Nat.lt_of_lt_of_le (show 27720 < 2 ^ 15 by decide) (Nat.pow_le_pow_right (by decide) (by decide))) (by decide)⟩, by decide, by omega⟩
end DL

end
section
set_option Elab.async false
set_option linter.all false
set_option autoImplicit true
set_option maxRecDepth 10000
set_option maxHeartbeats 400000
namespace DL
open PySem L2
/-! ### courses as data -/
theorem eqv_p (p q : Pc) : (pD p).eqv (pD q) = decide (p = q) := by
  show ((qD p.1).eqv (qD q.1) && ((qD p.2.1).eqv (qD q.2.1) && ((qD p.2.2).eqv (qD q.2.2) && true))) = _
  rw [eqv_q, eqv_q, eqv_q, Bool.eq_iff_iff]
  simp only [Bool.and_true, Bool.and_eq_true, decide_eq_true_eq]
  constructor
  · rintro ⟨h1, h2, h3⟩
    exact Prod.ext h1 (Prod.ext h2 h3)
  · rintro rfl; exact ⟨rfl, rfl, rfl⟩
theorem eqv_c : ∀ (a b : List Pc), (cD a).eqv (cD b) = decide (a = b)
  | [], [] => rfl
  | [], _ :: _ => rfl
  | _ :: _, [] => rfl
  | p :: a, q :: b => by
    show ((pD p).eqv (pD q) && (cD a).eqv (cD b)) = _
    rw [eqv_p, eqv_c a b, Bool.eq_iff_iff]
    simp only [Bool.and_eq_true, decide_eq_true_eq, List.cons.injEq]
theorem lay_c : ∀ (a : List Pc), PyData.canLayAll0 (pdL (a.map pD)) = true ∧ PyData.depthAll (pdL (a.map pD)) ≤ 2
  | [] => ⟨rfl, Nat.zero_le _⟩
  | p :: a => by
    obtain ⟨h1, h2⟩ := lay_c a
    refine ⟨?_, ?_⟩
    · show ((pD p).pd.canLay0 && PyData.canLayAll0 (pdL (a.map pD))) = true
      rw [h1]; rfl
    · show max (pD p).pd.depth (PyData.depthAll (pdL (a.map pD))) ≤ 2
      have : (pD p).pd.depth = 2 := rfl
      omega
theorem shp_c (a : List Pc) : (cD a).shp = true := by
  obtain ⟨h1, h2⟩ := lay_c a
  show (PyData.canLayAll0 (pdL (a.map pD)) && decide (PyData.depthAll (pdL (a.map pD)) + 1 ≤ 64)) = true
  rw [h1]
  simp; omega
theorem cut_to {xs : List D} {k : Nat} (h : k ≤ xs.length) : cutD xs none (some (k : Int)) = xs.take k := by
  unfold cutD
  rw [HT.sIx_none, HT.sIx_nat, Nat.min_eq_left h]; rfl
theorem cut_from {xs : List D} {k : Nat} (h : k ≤ xs.length) : cutD xs (some (k : Int)) none = xs.drop k := by
  unfold cutD
  rw [HT.sIx_none, HT.sIx_nat, Nat.min_eq_left h, List.take_of_length_le]
  rw [List.length_drop]; omega
/-! ### from one place on moved -/
theorem turn_len {c : List Pc} {k : Nat} {b : Rat} : (turn c k b).length = c.length := by
  unfold turn
  rw [List.length_append, List.length_map, List.length_take, List.length_drop]; omega
theorem turn_fst {c : List Pc} {k : Nat} {b : Rat} : (turn c k b).map (fun p => p.1) = c.map (fun p => p.1) := by
  unfold turn
  rw [List.map_append, List.map_map]
  conv => rhs; rw [← List.take_append_drop k c, List.map_append]
  rfl
theorem turn_asc {c : List Pc} {k : Nat} {b : Rat} (h : Asc c) : Asc (turn c k b) := by
  have e1 : ∀ d : List Pc, Asc d ↔ (d.map (fun p => p.1)).Pairwise (· < ·) := fun d => by unfold Asc; rw [List.pairwise_map]
  rw [e1, turn_fst, ← e1]; exact h
theorem turn_gp {c : List Pc} {k : Nat} {b : Rat} {M u v w : Nat} (h : ∀ p ∈ c, GP M u v p) (hb : Sd N2 v b) (hv : v + 26 ≤ w) : ∀ p ∈ turn c k b, GP M u w p := fun p hp => by
  unfold turn at hp
  rcases List.mem_append.mp hp with z | z
  · have ⟨h1, h2, h3⟩ := h p (List.mem_of_mem_take z)
    exact ⟨h1, h2.mono (Nat.dvd_refl _) (by omega), h3⟩
  · obtain ⟨q, hq, rfl⟩ := List.mem_map.mp z
    have ⟨h1, h2, h3⟩ := h q (List.mem_of_mem_drop hq)
    exact ⟨h1, (h2.add hb (L := 25) (by decide) (by decide) (Nat.le_refl _) (Nat.le_refl _)).mono (Nat.dvd_refl _) (by omega), h3⟩
theorem turn_ne_nil {c : List Pc} {k : Nat} {b : Rat} (h : c ≠ []) : turn c k b ≠ [] := fun z => by
  have := congrArg List.length z
  rw [turn_len] at this
  exact h (List.length_eq_zero_iff.mp (by simpa using this))
/-- a time past all starts -/
theorem all_past : ∀ (c : List Pc), ∃ t : Rat, ∀ p ∈ c, p.1 < t
  | [] => ⟨0, fun p h => by cases h⟩
  | p :: c => by
    obtain ⟨t, h⟩ := all_past c
    refine ⟨(if p.1 < t then t else p.1) + 1, fun q hq => ?_⟩
    have hq' : q = p ∨ q ∈ c := by simpa using hq
    rcases hq' with rfl | hq'
    · split <;> grind
    · have := h q hq'
      split <;> grind
theorem turn_tidy {c d : List Pc} {k : Nat} {b : Rat} (hc : Asc c) (hd : Asc d) (hk : k < c.length) (hb : b ≠ 0) (hn : ∀ x, nowQ c x = nowQ d x) : tidyQ (turn c k b) ≠ tidyQ d := fun e => by
  obtain ⟨t, ht⟩ := all_past c
  refine turn_ne hk hb hn ht ?_
  rw [← now_tidy (turn_asc hc), e, now_tidy hd]
theorem eqv_bl (a b : Bool) : (D.bl a).eqv (D.bl b) = (a == b) := by
  cases a <;> cases b <;> rfl
end DL

end
section
set_option Elab.async false
set_option linter.all false
set_option autoImplicit true
set_option maxRecDepth 100000
set_option maxHeartbeats 400000
namespace DL
open PySem L2
/-! ### what the top has written -/
def defAt {K : PySem.W.Frag} {h : Heap} {mg : Str → Option Value} (X : K.In h) (G : h.Ns mainGlobals mg) {nm : Str} {st : Stmt} {ps : List Str} {f : Addr} {od an : Option Addr} {sl : Array (Option Value)} {oc kV dc pm cd ct : Value}
    (hb : ∀ (kV doc pm : Value) (an : Option Addr) (cdv ct : Value) (us : List Value), us.length = ps.length → bindArgs (PySem.W.fnOf nm nm (defArgs st) (defBody st) (defScope st) .none kV doc pm an cdv ct) ⟨us, []⟩ = pure (ps.zip us))
    (a : PySem.W.nsIn K mainGlobals nm = some (some (.ref f))) (l : K.lookup f = some ⟨oc, od, .func (PySem.W.fnOf nm nm (defArgs st) (defBody st) (defScope st) .none kV dc pm an cd ct), sl⟩) (c : PySem.W.codeIn K cd nm = true) (k : PySem.W.keepIn K (.ref f) = true) : DefAt K mg nm st ps :=
  ⟨f, _, fun_mk l c k, PySem.W.mg_of X G a, hb kV dc pm an cd ct⟩
theorem law_end {P : Program} {w : World} {K : PySem.W.Frag} {mg : Str → Option Value} {fa : Addr} {nm x : Str} {st : Stmt} {lev : Nat} {S : Sg} (d : DefAt K mg nm st [x]) (hm : mg nm = some (.ref fa)) (ok : ∀ base : Heap, FnOk P w K mg base CX0 lev d.a d.fd [x] (spOf K S)) :
    ∃ fd : FuncData, (∀ (s : Shared) (v : Value), BindsTo s fd ⟨[v], []⟩ [(x, v)]) ∧ ∀ base : Heap, K.In base → base.Ns mainGlobals mg → FnOk P w K mg base CX0 lev fa fd [x] (spOf K S) := by
  have e : some (Value.ref d.a) = some (Value.ref fa) := d.m.symm.trans hm
  have e2 : d.a = fa := by cases e; rfl
  exact ⟨d.fd, fun s v => .of_eq (d.bb [v] rfl), fun base _ _ => e2 ▸ ok base⟩
theorem sp_law {S : Sg} {m : Nat} (hS : ∀ ns : List Int, ns.length ≤ m → S [.sc ns] fun r _ => r = .d (.bl true)) (K : PySem.W.Frag) (H : Hp) (a : Addr) (ns : List Int) (hl : ns.length ≤ m) (_ : Only H) (hq : SqL K H a (ns.map V.int)) : spOf K S [.ref a] H (fun v _ => v = .bl true) fun _ _ _ => False :=
  ⟨H, [.sc ns], _, Ex.refl _, ⟨.ref a, [], rfl, ⟨a, rfl, hq⟩, rfl⟩, List.nodup_nil, hS ns hl, fun v R' H' r os _ hr _ e => by subst e; exact hr⟩
/-- a pair of numbers that the top has written -/
theorem con_q {K : PySem.W.Frag} {h : Heap} {mg : Str → Option Value} (X : K.In h) (G : h.Ns mainGlobals mg) {nm : Str} {a : Addr} {od : Option Addr} {n : Nat} {sl : Array (Option Value)} {i j : Int} {t u}
    (e : PySem.W.nsIn K mainGlobals nm = some (some (.ref a))) (l : K.lookup a = some ⟨.type "tuple", od, .seq #[.int i t, .int j u] n, sl⟩) : ∃ v u, mg nm = some u ∧ RelV v u ∧ ∀ R, Rp K R (.tup [.int i, .int j]) v :=
  ⟨.ref a, .ref a, PySem.W.mg_of X G e, rfl, fun R => ⟨a, [.int i, .int j], rfl, .inr ⟨_, _, _, l, rfl, rfl, by rw [sizeLine_eq]; show 2 ≤ _; omega, .cons ⟨_, rfl⟩ (.cons ⟨_, rfl⟩ .nil)⟩, ⟨_, _, rfl, rfl, _, _, rfl, rfl, rfl⟩⟩⟩
end DL

end
section
set_option Elab.async false
set_option linter.all false
set_option autoImplicit true
set_option maxRecDepth 10000
set_option maxHeartbeats 400000
namespace DL
open PySem L2
/-! ### the times at which a course shows a reading -/
def ST_next : Sg := fun ps Post => ∃ (c : List Pc) (i : Nat), ps = [.w (cD c), .d (.int (i : Int))] ∧ Post (.d (oD ((c[i + 1]?).map fun q => q.1))) []
def ST_div : Sg := fun ps Post => ∃ (a b : Rat) (j k : Nat), ps = [.d (qD a), .d (qD b)] ∧ b ≠ 0 ∧ Sz j a ∧ Sz k b⁻¹ ∧ j + k ≤ 7900 ∧ Post (.d (qD (a / b))) []
theorem fr_inv {b : Rat} : fr (b.den : Int) b.num = b⁻¹ := (Rat.inv_def b).symm
theorem fr_neg {n d : Int} : fr (-n) (-d) = fr n d := by
  unfold fr
  rw [Rat.neg_divInt_neg]
theorem div_eq {a b : Rat} : a * b⁻¹ = a / b := (Rat.div_def a b).symm
theorem gcd_nd (b : Rat) : Int.gcd b.num (b.den : Int) = 1 := by
  have := b.reduced
  simpa [Int.gcd, Nat.Coprime] using this
theorem inv_pos {b : Rat} (h : 0 < b.num) : D.tup [.int (b.den : Int), .int b.num] = qD b⁻¹ := by
  rw [qD_fr h (gcd_nd b), fr_inv]
theorem inv_neg {b : Rat} (h : b.num < 0) : D.tup [.int (-(b.den : Int)), .int (-b.num)] = qD b⁻¹ := by
  rw [qD_fr (by omega) (by rw [Int.neg_gcd, Int.gcd_neg]; exact gcd_nd b), fr_neg, fr_inv]
def tmP (p : Pc) (r : Rat) : Rat := p.1 + (r - p.2.1) / p.2.2
def tm (c : List Pc) (r : Rat) (i : Nat) : Option Rat := match c[i]? with
  | none => none
  | some p => if r < p.2.1 then none else match c[i + 1]? with
    | none => some (tmP p r)
    | some q => if tmP p r < q.1 then some (tmP p r) else none
def timesQ (c : List Pc) (r : Rat) : List Rat := (List.range c.length).filterMap (tm c r)
theorem range_step {α : Type} {f : Nat → Option α} {i : Nat} : (List.range (i + 1)).filterMap f = (List.range i).filterMap f ++ (f i).toList := by
  rw [List.range_succ, List.filterMap_append]
  cases e : f i <;> simp [e]
theorem fm_only {α : Type} {g : Nat → Option α} {k : Nat} (h : ∀ i, i ≠ k → g i = none) : ∀ n, k < n → (List.range n).filterMap g = (g k).toList
  | 0, h0 => by omega
  | n + 1, h0 => by
    rw [range_step]
    by_cases e : k = n
    · subst e
      have : (List.range k).filterMap g = [] := List.filterMap_eq_nil_iff.mpr fun i hi => h i (by have := List.mem_range.mp hi; omega)
      rw [this]; rfl
    · rw [fm_only h n (by omega), h n (fun z => e z.symm)]; simp
/-- rates above zero -/
def Up0 (c : List Pc) : Prop := ∀ p ∈ c, 0 < p.2.2
theorem tmP_line {p : Pc} {r : Rat} (h : 0 < p.2.2) : pline p (tmP p r) = r := by
  unfold pline tmP
  have h0 : p.2.2 ≠ 0 := fun z => by rw [z] at h; exact Rat.lt_irrefl h
  have : p.2.2 * ((r - p.2.1) / p.2.2) = r - p.2.1 := by
    rw [Rat.mul_comm, Rat.div_mul_cancel h0]
  grind
theorem tmP_ge {p : Pc} {r : Rat} (h : 0 < p.2.2) (hr : ¬ r < p.2.1) : p.1 ≤ tmP p r := by
  have e := tmP_line (r := r) h
  unfold pline at e
  rcases (Rat.le_total (a := p.1) (b := tmP p r)) with z | z
  · exact z
  · have z' : tmP p r - p.1 ≤ 0 := by grind
    rcases Rat.le_iff_lt_or_eq.mp z' with y | y
    · have : p.2.2 * (tmP p r - p.1) < 0 := by
        have := Rat.mul_lt_mul_of_pos_left y h
        rwa [Rat.mul_zero] at this
      grind
    · grind
theorem tmP_lt {p : Pc} {r x : Rat} (h : 0 < p.2.2) : tmP p r < x ↔ r < pline p x := by
  have e := tmP_line (r := r) h
  unfold pline at e ⊢
  constructor
  · intro z
    have z' : tmP p r - p.1 < x - p.1 := by grind
    have := Rat.mul_lt_mul_of_pos_left z' h
    grind
  · intro z
    by_cases y : tmP p r < x
    · exact y
    · replace y := Rat.not_lt.mp y
      have y' : x - p.1 ≤ tmP p r - p.1 := by grind
      have := Rat.mul_le_mul_of_nonneg_left y' (Rat.le_of_lt h)
      grind
theorem tm_some {c : List Pc} {r t : Rat} {i : Nat} (hu : Up0 c) (h : tm c r i = some t) : ∃ p, c[i]? = some p ∧ t = tmP p r ∧ p.1 ≤ t ∧ (∀ q, c[i + 1]? = some q → t < q.1) := by
  unfold tm at h
  split at h
  · cases h
  · rename_i p hp
    split at h
    · cases h
    · rename_i hr
      have h0 := hu p (List.mem_of_getElem? hp)
      split at h
      · rename_i hq
        cases h
        exact ⟨p, hp, rfl, tmP_ge h0 hr, fun q z => by rw [hq] at z; cases z⟩
      · rename_i q hq
        split at h
        · rename_i hl
          cases h
          exact ⟨p, hp, rfl, tmP_ge h0 hr, fun q' z => by rw [hq] at z; cases z; exact hl⟩
        · cases h
theorem times_mem {c : List Pc} {r t : Rat} (ha : Asc c) (hu : Up0 c) (h : t ∈ timesQ c r) : nowQ c t = some r ∧ ∃ p ∈ c, t = tmP p r := by
  unfold timesQ at h
  obtain ⟨i, hi, e⟩ := List.mem_filterMap.mp h
  obtain ⟨p, hp, ht, h1, h2⟩ := tm_some hu e
  refine ⟨?_, p, List.mem_of_getElem? hp, ht⟩
  rw [now_at ha hp h1 h2, ht, tmP_line (hu p (List.mem_of_getElem? hp))]
theorem times_up {c : List Pc} {r : Rat} (ha : Asc c) (hu : Up0 c) : Up (timesQ c r) := by
  unfold Up timesQ
  rw [List.pairwise_filterMap]
  refine List.Pairwise.imp ?_ List.pairwise_lt_range
  intro i j hij t ht u hu'
  obtain ⟨p, hp, -, h1, h2⟩ := tm_some hu ht
  obtain ⟨q, hq, -, h3, h4⟩ := tm_some hu hu'
  have hj := (List.getElem?_eq_some_iff.mp hq).1
  have e1 := atB (xs := c) (i := i + 1) (by omega)
  have h5 := h2 _ e1
  rcases Nat.lt_or_ge (i + 1) j with z | z
  · have := asc_lt ha e1 hq z; grind
  · have : i + 1 = j := by omega
    subst this
    rw [hq] at e1; cases e1; grind
/-- one piece's own row -/
theorem times_row {c : List Pc} {r : Rat} (ha : Asc c) (hu : Up0 c) {k : Nat} {p q : Pc} (hp : c[k]? = some p) (hq : c[k + 1]? = some q) : ((timesQ c r).filter fun t => !decide (t < p.1)).filter (fun t => decide (t < q.1)) = if !decide (r < p.2.1) && decide (r < pline p q.1) then [tmP p r] else [] := by
  have hk := (List.getElem?_eq_some_iff.mp hp).1
  unfold timesQ
  rw [List.filter_filter, List.filter_filterMap, fm_only (k := k) (fun i hi => ?_) _ hk]
  · have h0 := hu p (List.mem_of_getElem? hp)
    unfold tm
    rw [hp, hq]
    by_cases h1 : r < p.2.1
    · simp [h1]
    · by_cases h2 : tmP p r < q.1
      · have h3 := tmP_ge h0 h1
        have h4 : ¬ tmP p r < p.1 := by grind
        have h5 := (tmP_lt h0).mp h2
        simp [h1, h2, h4, h5]
      · have h5 : ¬ r < pline p q.1 := fun z => h2 ((tmP_lt h0).mpr z)
        simp [h1, h2, h5]
  · cases e : tm c r i with
    | none => rfl
    | some t =>
      obtain ⟨p', hp', -, h1, h2⟩ := tm_some hu e
      have : (decide (t < q.1) && !decide (t < p.1)) = false := by
        rcases Nat.lt_or_ge i k with z | z
        · have e1 := atB (xs := c) (i := i + 1) (by omega)
          have h5 := h2 _ e1
          have : t < p.1 := by
            rcases Nat.lt_or_ge (i + 1) k with y | y
            · have := asc_lt ha e1 hp y; grind
            · have : i + 1 = k := by omega
              subst this
              rw [hp] at e1; cases e1; exact h5
          simp [this]
        · have : ¬ t < q.1 := by
            rcases Nat.lt_or_ge (k + 1) i with y | y
            · have := asc_lt ha hq hp' y; grind
            · have : k + 1 = i := by omega
              subst this
              rw [hq] at hp'; cases hp'; grind
          simp [this]
      simpa using this
theorem times_rowL {c : List Pc} {r : Rat} (ha : Asc c) (hu : Up0 c) {k : Nat} {p : Pc} (hp : c[k]? = some p) (hq : c[k + 1]? = none) : ((timesQ c r).filter fun t => !decide (t < p.1)) = if !decide (r < p.2.1) then [tmP p r] else [] := by
  have hk := (List.getElem?_eq_some_iff.mp hp).1
  have hk2 := List.getElem?_eq_none_iff.mp hq
  unfold timesQ
  rw [List.filter_filterMap, fm_only (k := k) (fun i hi => ?_) _ hk]
  · have h0 := hu p (List.mem_of_getElem? hp)
    unfold tm
    rw [hp, hq]
    by_cases h1 : r < p.2.1
    · simp [h1]
    · have h3 := tmP_ge h0 h1
      have h4 : ¬ tmP p r < p.1 := by grind
      simp [h1, h4]
  · cases e : tm c r i with
    | none => rfl
    | some t =>
      obtain ⟨p', hp', -, h1, h2⟩ := tm_some hu e
      have hi' := (List.getElem?_eq_some_iff.mp hp').1
      have e1 := atB (xs := c) (i := i + 1) (by omega)
      have h5 := h2 _ e1
      have : t < p.1 := by
        rcases Nat.lt_or_ge (i + 1) k with y | y
        · have := asc_lt ha e1 hp y; grind
        · have : i + 1 = k := by omega
          subst this
          rw [hp] at e1; cases e1; exact h5
      simp [this]
def Cv (v : Nat) (c : List Pc) : Prop := ∀ p ∈ c, Sz v p.2.2⁻¹
theorem tmP_sz {s t r v w : Nat} {p : Pc} {x : Rat} (h : Sz s p.1 ∧ Sz t p.2.1 ∧ Sz r p.2.2) (hv : Sz v p.2.2⁻¹) (hx : Sz w x) : Sz (s + (w + t + 1 + v) + 1) (tmP p x) := by
  unfold tmP
  rw [← div_eq]
  exact h.1.add ((hx.sub h.2.1).mul hv)
def ST_times : Sg := fun ps Post => ∃ (c : List Pc) (x : Rat) (s t r v w : Nat), ps = [.w (cD c), .d (qD x)] ∧ Cz s t r c ∧ Cv v c ∧ Up0 c ∧ Sz w x ∧ 2 * s + t + v + w + 10 ≤ 7900 ∧ c.length ≤ 100000 ∧ Post (.own (.lst ((timesQ c x).map qD))) []
def ST_near : Sg := fun ps Post => ∃ (v : Rat) (w : Nat), ps = [.own .sto, .w (qD v)] ∧ Sz w v ∧ w ≤ 7000 ∧ ∀ u, Sz (w + 11) u → Post (.d (qD u)) [.sto]
def ST_limit : Sg := fun ps Post => ∃ (c : List Pc) (i : Nat) (p : Pc) (s t r : Nat), ps = [.w (cD c), .d (.int (i : Int))] ∧ c[i]? = some p ∧ Cz s t r c ∧ 2 * s + t + r + 10 ≤ 7900 ∧ Post (.d (oD ((c[i + 1]?).map fun q => pline p q.1))) []
def ST_values : Sg := fun ps Post => ∃ (c : List Pc) (s t r : Nat), ps = [.own .sto, .w (cD c)] ∧ c ≠ [] ∧ Cz s t r c ∧ 2 * s + 2 * t + r + 30 ≤ 7900 ∧ c.length ≤ 1000 ∧ ∀ vs : List Rat, vs ≠ [] → vs.length ≤ 40 → (∀ v ∈ vs, Sz (2 * t + 2 * s + r + 20) v) → Post (.own (.lst (vs.map qD))) [.sto]
def ST_timesright : Sg := fun ps Post => ∃ (c : List Pc) (x : Rat) (s t r v w : Nat), ps = [.w (cD c), .w (qD x), .w (.lst ((timesQ c x).map qD))] ∧ Cz s t r c ∧ Cv v c ∧ Up0 c ∧ Asc c ∧ Sz w x ∧ 2 * s + 2 * t + r + 2 * v + 2 * w + 40 ≤ 7900 ∧ c.length ≤ 1000 ∧ Post (.d (.bl true)) []
theorem times_len {c : List Pc} {x : Rat} : (timesQ c x).length ≤ c.length := by
  have := List.length_filterMap_le (tm c x) (List.range c.length)
  rw [List.length_range] at this
  exact this
theorem cmp_lt {a b : Rat} : decide (cmpQ a b < 0) = decide (a < b) := by
  unfold cmpQ
  by_cases h1 : a < b
  · simp [h1]
  · by_cases h2 : b < a <;> simp [h1, h2]
section
open PyProof.Rows hiding St
variable {X : Cx} {n : Nm} {c : Cc} {Γ : SL} {e a b : Expr} {x y z : DL.D} {pos p : Pos} {nm : Str} {D : DE}
/-- a, b, c = a tuple's three things -/
theorem ws_unp3 (i j l : Nat) {nx ny nz : Str} {px py pz pt : Pos} {kt : Nat} (h : WE X n c Γ e fun x Γ' => ∃ u v w, x = .tup [u, v, w] ∧ D.nx (((Γ'.set i (.d u)).set j (.d v)).set l (.d w))) (hi : n.N[i]? = some nx := by rfl) (hj : n.N[j]? = some ny := by rfl) (hl : n.N[l]? = some nz := by rfl)
    (li : n.as.contains i = true := by rfl) (lj : n.as.contains j = true := by rfl) (ll : n.as.contains l = true := by rfl) (oi : n.oi.contains i = false := by rfl) (oj : n.oi.contains j = false := by rfl) (ol : n.oi.contains l = false := by rfl)
    (h1 : (assignEach [.Name nx px, .Name ny py, .Name nz pz] X.env).map (·.2) = assign (.Name nx px) X.env :: (assignEach [.Name ny py, .Name nz pz] X.env).map (·.2) := by rfl) (h2 : (assignEach [.Name ny py, .Name nz pz] X.env).map (·.2) = assign (.Name ny py) X.env :: (assignEach [.Name nz pz] X.env).map (·.2) := by rfl) (h2' : (assignEach [.Name nz pz] X.env).map (·.2) = assign (.Name nz pz) X.env :: (assignEach [] X.env).map (·.2) := by rfl)
    (h3 : (assignEach [.Name nx px, .Name ny py, .Name nz pz] X.env).length = 3 := by rfl) (h4 : (assignEach [.Name nx px, .Name ny py, .Name nz pz] X.env).findIdx? (·.1) = none := by rfl)
    (hs : swapsWithSole [.Tuple [.Name nx px, .Name ny py, .Name nz pz] kt pt] e pos.line X.env = pure false := by rfl) (hw : swappedStores [.Tuple [.Name nx px, .Name ny py, .Name nz pz] kt pt] e X.env = pure none := by rfl)
    (h5 : (assignEach [.Tuple [.Name nx px, .Name ny py, .Name nz pz] kt pt] X.env).map (·.2) = [assign (.Tuple [.Name nx px, .Name ny py, .Name nz pz] kt pt) X.env] := by rfl) :
    WS X n c Γ (.Assign [.Tuple [.Name nx px, .Name ny py, .Name nz pz] kt pt] e pos) D := .mk fun hn σ R H s E ok => by
  obtain ⟨l1, l2⟩ := hn.loc i nx li hi
  obtain ⟨l3, l4⟩ := hn.loc j ny lj hj
  obtain ⟨l5, l6⟩ := hn.loc l nz ll hl
  have nd : X.N.Nodup := by rw [hn.eq]; exact hn.nd
  refine (ps_asg pW (pg_tup hn.calm (pgs_cons (pg_name nd (by rw [hn.eq]; exact hi) l1 l2) (pgs_cons (pg_name nd (by rw [hn.eq]; exact hj) l3 l4) (pgs_cons (pg_name nd (by rw [hn.eq]; exact hl) l5 l6) pgs_nil h2') h2) h1) h3 h4) hs hw h5).w (h.run hn σ R H s _ fun v R' H' x Γ' s' e' r ⟨u, w, y, hx, p⟩ => ?_)
  subst hx
  obtain ⟨t, vs, rfl, hT, v1, ws, rfl, q1, v2, ws2, rfl, q2, v3, ws3, rfl, q3, q4⟩ := r
  cases (show ws3 = [] from q4)
  exact ⟨t, _, rfl, ex_t s'.rh hT, rfl, v1, [v2, v3], rfl, v2, [v3], rfl, v3, [], rfl, rfl, ok.nx _ R' H' _ (((s'.setD i q1 (hn.noi oi)).setD j q2 (hn.noi oj)).setD l q3 (hn.noi ol)) e' p⟩
/-- what a slot holds is forgotten -/
theorem wb_any (i : Nat) {sts : List Stmt} {s0 : Slot} (h : WB X n c (Γ.set i .any) sts D) (hg : Γ[i]? = some s0 := by rfl) (hoi : n.oi.contains i = false := by rfl) : WB X n c Γ sts D := .mk fun hn σ R H s E ok => by
  obtain ⟨w, e1, -⟩ := s.sl i _ hg
  have hl : i < Γ.length := (List.getElem?_eq_some_iff.mp hg).1
  have es : σ.set i w = σ := by
    apply List.ext_getElem?
    intro j
    by_cases hj : i = j
    · subst hj; rw [List.getElem?_set_self (by rw [← s.len]; exact hl), e1]
    · rw [List.getElem?_set_ne hj]
  have s2 : SOk X.K c (Γ.set i .any) (σ.set i w) R H := s.set i (v := w) rfl trivial (hn.noi hoi)
  rw [es] at s2
  exact h.run hn σ R H s2 E ok
end
end DL

end
section
set_option Elab.async false
set_option linter.all false
set_option autoImplicit true
set_option maxRecDepth 10000
set_option maxHeartbeats 400000
namespace DL
open PySem L2
open PyProof.Rows hiding St
/-! ### xs.count(x) of fractions -/
def rCntD (K : PySem.W.Frag) : V → List V → Hp → VK → Prop := fun x xs H Q => ∃ (p : Addr) (vs : List V) (ds : List PyData) (d : PyData) (u : V), x = .ref p ∧ xs = [u] ∧ SqL K H p vs ∧ DpAll K H vs ds ∧ Dp K H u d ∧ PyData.canLayAll0 ds = true ∧ d.canLay0 = true ∧ d.depth ≤ 60 ∧ Q (.int ((ds.countP fun y => PyData.eqv y d : Nat) : Int)) H
theorem mt_countD {X : Cx} (hu : X.A.units + 64 < cLine) : MtR X "list.count" (rCntD X.K) := by
  intro pins s σ H x xs v us Q I rx rxs h
  obtain ⟨p, vs, ds, d, u, rfl, rfl, hs, hD, hd, c1, c2, c3, q⟩ := h
  cases rx
  obtain ⟨u', rfl, ru⟩ := rxs.one
  obtain ⟨its, rv, ⟨o, n, ho, hc, hdn⟩, hlen⟩ := I.list hs
  obtain ⟨as, r1⟩ := Dp.readsAll I ds vs its hD rv
  obtain ⟨bs, r2⟩ := Dp.reads I d u u' hd ru
  refine SeqAt.count_list_data (vs := its.toArray) (xs := ds) (d := d) ⟨o, ho, hc, n, hdn.2⟩ (by simpa using r1) r2 (PyData.plainAll_of_canLay0 _ c1) (PyData.plain_of_canLay0 _ c2) (by have := Nat.min_le_right (PyData.depthAll ds) d.depth; omega) ?_
  exact ⟨.int ((ds.countP fun y => PyData.eqv y d : Nat) : Int), H, I.tok _, ⟨s.toks, rfl⟩, q⟩
theorem qs_lay : ∀ (a : List Rat), PyData.canLayAll0 (pdL (a.map qD)) = true
  | [] => rfl
  | p :: a => by
    show ((qD p).pd.canLay0 && PyData.canLayAll0 (pdL (a.map qD))) = true
    rw [qs_lay a]; rfl
theorem qs_count (q : Rat) : ∀ (a : List Rat), ((pdL (a.map qD)).countP fun y => PyData.eqv y (qD q).pd) = a.count q
  | [] => rfl
  | p :: a => by
    have e : PyData.eqv (qD p).pd (qD q).pd = decide (p = q) := eqv_q p q
    show ((qD p).pd :: pdL (a.map qD)).countP _ = _
    rw [List.countP_cons, qs_count q a, e, List.count_cons]
    simp
section
variable {X : Cx} {n : Nm} {c : Cc} {Γ : SL} {e a b : Expr} {pos ap : Pos}
theorem ev_countQ {qs : List Rat} {q : Rat} (ha : EV X n c Γ e (.lst (qs.map qD))) (hb : EV X n c Γ b (qD q))
    (hbase : attributeBase e "count" X.env (eval e X.env) = eval e X.env := by rfl) (hline : (ap.endLine == pos.line) = true := by rfl) (hst : isStar b = false := by rfl) : EV X n c Γ (.Call (.Attribute e "count" ap) [b] [] pos) (.int ((qs.count q : Nat) : Int)) := .mk fun hn σ R H s Q k => by
  refine (pe_bm PySem.F.plainAttrs_list PySem.F.slot_list_count PySem.F.type_list_count (mt_countD hn.room.units) pW pWA hbase (by rw [se_c hst]; rfl) hline (se_c hst) rfl).w ?_
  refine ha.run hn σ R H s _ fun v R1 H1 x Γ1 s1 e1 r1 ⟨g1, g2⟩ => ?_
  subst g1 g2
  obtain ⟨p, vs, rfl, h2, h3⟩ := r1
  refine ⟨.inl ⟨rfl, _, .inl (.inl (s1.rh p _ h2))⟩, ?_⟩
  refine (wa_of (ea_cons (ek_d hb) ea_nil (se_c hst)) (P := fun ks Γ' => ks = [.d (qD q)] ∧ Γ' = Γ1) ⟨rfl, rfl⟩).run hn σ R1 H1 s1 _ fun us R2 H2 ks Γ2 s2 e2 r2 ⟨g3, g4⟩ => ?_
  subst g3 g4
  obtain ⟨u, ws, rfl, h4, h5⟩ := r2
  cases (show ws = [] from h5)
  refine ⟨p, vs, pdL (qs.map qD), (qD q).pd, u, rfl, rfl, .inl (.inl (s2.rh p _ (e2 p _ h2))), dpAll_mono s2.rh (RpL.dp _ _ (qs_lay qs) (h3.mono e2)), dp_mono s2.rh (Rp.dp _ _ rfl h4), qs_lay qs, rfl, Nat.le_of_ble_eq_true rfl, ?_⟩
  rw [qs_count]
  exact k _ R2 H2 (.int ((qs.count q : Nat) : Int)) _ s2 (e1.trans e2) rfl ⟨rfl, rfl⟩
end
theorem up_nodup {qs : List Rat} (h : Up qs) : qs.Nodup := List.Pairwise.imp (fun h => Rat.ne_of_lt h) h
theorem pl_tq {qs : List Rat} (h : qs.length ≤ 100000) : (DL.D.tup (qs.map qD)).pl 5 := ⟨by rw [List.length_map]; exact h, fun d hd => by
  obtain ⟨p, _, rfl⟩ := List.mem_map.mp hd
  exact pl_q 3 p⟩
/-- the last piece set to show x -/
def setL (c : List Pc) (x : Rat) : List Pc := c.set (c.length - 1) (((c[c.length - 1]?).getD (0, 0, 0)).1, x, ((c[c.length - 1]?).getD (0, 0, 0)).2.2)
theorem setL_at {c : List Pc} {x : Rat} {p : Pc} (h : c[c.length - 1]? = some p) : setL c x = c.set (c.length - 1) (p.1, x, p.2.2) := by
  unfold setL
  rw [h]; rfl
theorem setL_mem {c : List Pc} {x : Rat} {p q : Pc} (h : c[c.length - 1]? = some p) (hq : q ∈ setL c x) : q ∈ c ∨ q = (p.1, x, p.2.2) := by
  rw [setL_at h] at hq
  exact List.mem_or_eq_of_mem_set hq
theorem setL_fst {c : List Pc} {x : Rat} {p : Pc} (h : c[c.length - 1]? = some p) : (setL c x).map (fun p => p.1) = c.map (fun p => p.1) := by
  rw [setL_at h]
  apply List.ext_getElem?
  intro i
  rw [List.getElem?_map, List.getElem?_map]
  by_cases e : c.length - 1 = i
  · subst e
    rw [List.getElem?_set_self (List.getElem?_eq_some_iff.mp h).1, h]; rfl
  · rw [List.getElem?_set_ne e]
theorem setL_asc {c : List Pc} {x : Rat} {p : Pc} (h : c[c.length - 1]? = some p) (ha : Asc c) : Asc (setL c x) := by
  have e1 : ∀ d : List Pc, Asc d ↔ (d.map (fun p => p.1)).Pairwise (· < ·) := fun d => by unfold Asc; rw [List.pairwise_map]
  rw [e1, setL_fst h, ← e1]; exact ha
theorem setL_count {c : List Pc} {x : Rat} {p : Pc} (h : c[c.length - 1]? = some p) (ha : Asc c) (hu : Up0 c) : (timesQ (setL c x) x).count p.1 = 1 := by
  have hi := (List.getElem?_eq_some_iff.mp h).1
  have hl : (setL c x).length = c.length := by rw [setL_at h, List.length_set]
  have hu' : Up0 (setL c x) := fun q hq => by
    rcases setL_mem h hq with z | rfl
    · exact hu q z
    · exact hu p (List.mem_of_getElem? h)
  rw [(up_nodup (times_up (setL_asc h ha) hu')).count, if_pos]
  unfold timesQ
  rw [List.mem_filterMap]
  refine ⟨c.length - 1, List.mem_range.mpr (by omega), ?_⟩
  have e1 : (setL c x)[c.length - 1]? = some (p.1, x, p.2.2) := by rw [setL_at h, List.getElem?_set_self hi]
  have e2 : (setL c x)[c.length - 1 + 1]? = none := List.getElem?_eq_none (by omega)
  unfold tm
  rw [e1]
  simp only [e2, Rat.lt_irrefl, if_false]
  unfold tmP
  have : (x - x) / p.2.2 = 0 := by rw [Rat.sub_self, Rat.div_def, Rat.zero_mul]
  simp only [this, Rat.add_zero]
theorem inv_sz {N n k : Nat} {q : Rat} (h : Sd N n q) (h0 : N ≠ 0) (hN : N < 2 ^ k) (hn : n ≤ k) (hp : 0 < q.num) : Sz k q⁻¹ := by
  rw [← fr_inv]
  have hd := Nat.le_of_dvd (by omega) h.1
  refine fr_sz ?_ (h.2.mono hn) (by omega)
  have : Bt k (q.den : Int) := by show ((q.den : Nat) : Int).natAbs < _; rw [Int.natAbs_natCast]; omega
  exact this.mono (by omega)
theorem inv_szS {k : Nat} {q : Rat} (h : Sz k q) (hp : 0 < q.num) : Sz (8 * k) q⁻¹ := by
  rw [← fr_inv]
  exact fr_sz (h.d.mono (by omega)) h.n (by omega)
theorem ixN_nat {m k : Nat} (h : k < m) : ixN m (k : Int) = some k := by
  unfold ixN
  rw [if_pos (by omega), if_pos (by omega)]; simp
end DL

end
section
set_option Elab.async false
set_option linter.all false
set_option autoImplicit true
set_option maxRecDepth 10000
set_option maxHeartbeats 400000
namespace DL
open PySem L2
section
open PyProof.Rows hiding St
variable {X : Cx} {n : Nm} {c : Cc} {Γ : SL} {e a b : Expr} {x y z : DL.D} {pos p : Pos} {nm : Str} {D : DE} {k : AK}
/-- a, b, c, d = a tuple's four things -/
theorem ws_unp4 (i j l m : Nat) {nx ny nz nw : Str} {px py pz pw pt : Pos} {kt : Nat} (h : WE X n c Γ e fun x Γ' => ∃ u v w y, x = .tup [u, v, w, y] ∧ D.nx ((((Γ'.set i (.d u)).set j (.d v)).set l (.d w)).set m (.d y))) (hi : n.N[i]? = some nx := by rfl) (hj : n.N[j]? = some ny := by rfl) (hl : n.N[l]? = some nz := by rfl) (hm : n.N[m]? = some nw := by rfl)
    (li : n.as.contains i = true := by rfl) (lj : n.as.contains j = true := by rfl) (ll : n.as.contains l = true := by rfl) (lm : n.as.contains m = true := by rfl) (oi : n.oi.contains i = false := by rfl) (oj : n.oi.contains j = false := by rfl) (ol : n.oi.contains l = false := by rfl) (om : n.oi.contains m = false := by rfl)
    (h1 : (assignEach [.Name nx px, .Name ny py, .Name nz pz, .Name nw pw] X.env).map (·.2) = assign (.Name nx px) X.env :: (assignEach [.Name ny py, .Name nz pz, .Name nw pw] X.env).map (·.2) := by rfl) (h2 : (assignEach [.Name ny py, .Name nz pz, .Name nw pw] X.env).map (·.2) = assign (.Name ny py) X.env :: (assignEach [.Name nz pz, .Name nw pw] X.env).map (·.2) := by rfl) (h2' : (assignEach [.Name nz pz, .Name nw pw] X.env).map (·.2) = assign (.Name nz pz) X.env :: (assignEach [.Name nw pw] X.env).map (·.2) := by rfl) (h2'' : (assignEach [.Name nw pw] X.env).map (·.2) = assign (.Name nw pw) X.env :: (assignEach [] X.env).map (·.2) := by rfl)
    (h3 : (assignEach [.Name nx px, .Name ny py, .Name nz pz, .Name nw pw] X.env).length = 4 := by rfl) (h4 : (assignEach [.Name nx px, .Name ny py, .Name nz pz, .Name nw pw] X.env).findIdx? (·.1) = none := by rfl)
    (hs : swapsWithSole [.Tuple [.Name nx px, .Name ny py, .Name nz pz, .Name nw pw] kt pt] e pos.line X.env = pure false := by rfl) (hw : swappedStores [.Tuple [.Name nx px, .Name ny py, .Name nz pz, .Name nw pw] kt pt] e X.env = pure none := by rfl)
    (h5 : (assignEach [.Tuple [.Name nx px, .Name ny py, .Name nz pz, .Name nw pw] kt pt] X.env).map (·.2) = [assign (.Tuple [.Name nx px, .Name ny py, .Name nz pz, .Name nw pw] kt pt) X.env] := by rfl) :
    WS X n c Γ (.Assign [.Tuple [.Name nx px, .Name ny py, .Name nz pz, .Name nw pw] kt pt] e pos) D := .mk fun hn σ R H s E ok => by
  obtain ⟨l1, l2⟩ := hn.loc i nx li hi
  obtain ⟨l3, l4⟩ := hn.loc j ny lj hj
  obtain ⟨l5, l6⟩ := hn.loc l nz ll hl
  obtain ⟨l7, l8⟩ := hn.loc m nw lm hm
  have nd : X.N.Nodup := by rw [hn.eq]; exact hn.nd
  refine (ps_asg pW (pg_tup hn.calm (pgs_cons (pg_name nd (by rw [hn.eq]; exact hi) l1 l2) (pgs_cons (pg_name nd (by rw [hn.eq]; exact hj) l3 l4) (pgs_cons (pg_name nd (by rw [hn.eq]; exact hl) l5 l6) (pgs_cons (pg_name nd (by rw [hn.eq]; exact hm) l7 l8) pgs_nil h2'') h2') h2) h1) h3 h4) hs hw h5).w (h.run hn σ R H s _ fun v R' H' x Γ' s' e' r ⟨u, w, y, y2, hx, p⟩ => ?_)
  subst hx
  obtain ⟨t, vs, rfl, hT, v1, ws, rfl, q1, v2, ws2, rfl, q2, v3, ws3, rfl, q3, v4, ws4, rfl, q4, q5⟩ := r
  cases (show ws4 = [] from q5)
  exact ⟨t, _, rfl, ex_t s'.rh hT, rfl, v1, [v2, v3, v4], rfl, v2, [v3, v4], rfl, v3, [v4], rfl, v4, [], rfl, rfl, ok.nx _ R' H' _ ((((s'.setD i q1 (hn.noi oi)).setD j q2 (hn.noi oj)).setD l q3 (hn.noi ol)).setD m q4 (hn.noi om)) e' p⟩
/-- t[lo:hi] -/
theorem ev_sliceT {lo hi : Option Expr} {l1 h1 : Option Int} {p2 : Pos} {xs : List DL.D} (ha : EK X n c Γ a k) (hl : EP1 X n c Γ lo l1) (hh : EP1 X n c Γ hi h1) (hw : ¬ (HT.sIx xs.length 0 l1 = 0 ∧ HT.sIx xs.length xs.length h1 = xs.length)) (ga : k.get Γ = some (.tup xs) := by rfl) : EV X n c Γ (.Subscript a (.Slice lo hi none p2) pos) (.tup (cutD xs l1 h1)) := .mk fun hn σ R H s Q q =>
  (pe_slice sl_tup pW pP1 pP1).w (ha.run hn σ R H s _ fun v R1 H1 k' Γ1 s1 e1 r1 ⟨g1, g2⟩ => by
    subst g1 g2
    exact hl.run hn s1 _ fun R2 H2 s2 e2 => hh.run hn s2 _ fun R3 H3 s3 e3 => by
      obtain ⟨a1, vs, rfl, h2, h3⟩ := (((r1.mono e2).mono e3).wk s3 ga).tup s3.rh
      refine ⟨a1, vs, rfl, h2, by rw [← h3.length]; exact hw, fun m hm => ?_⟩
      have g := s3.new (.tup (cutV vs l1 h1)) hm
      exact q _ _ _ (.tup (cutD xs l1 h1)) _ (s3.grow g) (((e1.trans e2).trans e3).trans g.r) ⟨m, _, rfl, .inl (.inl upd_same), (h3.cut _ _).mono g.r⟩ ⟨rfl, rfl⟩)
/-- for x in e, where e's list is told when it is there -/
theorem ws_forLP (j : Nat) {body : List Stmt} {tp : Pos} (P : List DL.D → Prop) (Inv : Nat → SL → Prop) (h : WE X n c Γ e fun x Γ1 => ∃ ds, x = .lst ds ∧ P ds ∧ Inv 0 Γ1)
    (hs : ∀ ds, P ds → ∀ i Γ' d, ds[i]? = some d → Inv i Γ' → WB X n c (Γ'.set j (.d d)) body (turnE D (Inv (i + 1)))) (hd : ∀ ds Γ', P ds → Inv ds.length Γ' → D.nx Γ') (hj : n.N[j]? = some nm := by rfl) (ha : n.as.contains j = true := by rfl) (hoi : n.oi.contains j = false := by rfl)
    (hf : ∀ x, foldedSetIterable e X.env x = pure x := by intro _; rfl) : WS X n c Γ (.For (.Name nm tp) e body [] pos) D := .mk fun hn σ R H s E ok => by
  obtain ⟨l1, l2⟩ := hn.loc j nm ha hj
  refine (ps_for hn.po hn.calm (pi_list pW) (pg_name (by rw [hn.eq]; exact hn.nd) (by rw [hn.eq]; exact hj) l1 l2) pWB hf).w (h.run hn σ R H s _ fun v R1 H1 x Γ1 s1 e1 r1 ⟨ds, hx, hp, p1⟩ => ?_)
  subst hx
  obtain ⟨a, vs, rfl, ha', hr⟩ := r1
  refine ⟨a, rfl, ⟨vs, .inl (.inl (s1.rh a _ ha'))⟩, for_list (xs := vs) (fun i σ' H' => ∃ R' Γ', SOk X.K c Γ' σ' R' H' ∧ Ex R1 R' ∧ Inv i Γ') ⟨R1, Γ1, s1, Ex.refl _, p1⟩ (fun i σ' H' _ ⟨R', Γ', s', e', _⟩ => .inl (.inl (s'.rh a _ (e' a _ ha')))) (fun i v σ' H' hi ⟨R', Γ', s', e', p'⟩ => ?_) (fun σ' H' ⟨R', Γ', s', e', p'⟩ => ?_)⟩
  · obtain ⟨d, hd1, hd2⟩ := hr.get' hi
    exact (hs ds hp i Γ' d hd1 p').run hn _ R' H' (s'.setD j (Rp.mono e' _ _ hd2) (hn.noi hoi)) _ (turnE_ok ok (e1.trans e') fun σ2 R2 H2 Γ2 s2 e2 w => ⟨R2, Γ2, s2, e'.trans e2, w⟩)
  · rw [← hr.length] at p'
    exact ok.nx σ' R' H' Γ' s' (e1.trans e') (hd ds Γ' hp p')
theorem ev_call4 {d f : Expr} {l m q : AK} {ps : List Par} {S : Sg} (hc : CalF X n.k nm S) (j : Nat) (ha : EK X n c Γ a k) (hb : EK X n c Γ b l) (hd : EK X n c Γ d m) (hf : EK X n c Γ f q) (h : ∀ Post : Res → List OB → Prop, Post (.d z) [] → S ps Post) (hp : pars Γ [k, l, m, q] = some ps := by rfl) (ho : ownIx [k, l, m, q] = [] := by rfl) (hj : n.GN[j]? = some nm := by rfl)
    (he : starEach [a, b, d, f] X.env = (false, eval a X.env) :: starEach [b, d, f] X.env := by exact se_c rfl) (he2 : starEach [b, d, f] X.env = (false, eval b X.env) :: starEach [d, f] X.env := by exact se_c rfl) (he3 : starEach [d, f] X.env = (false, eval d X.env) :: starEach [f] X.env := by exact se_c rfl) (he4 : starEach [f] X.env = (false, eval f X.env) :: starEach [] X.env := by exact se_c rfl) (hpl : (backTo pos (starEach [b, d, f] X.env)).any (·.1) = false := by exact se_any rfl) : EV X n c Γ (.Call (.Name nm p) [a, b, d, f] [] pos) z :=
  we_call hc j (wa_of (ea_cons ha (ea_cons hb (ea_cons hd (ea_cons hf ea_nil he4) he3) he2) he) ⟨ps, hp, by rw [ho]; exact List.nodup_nil, by rw [ho]; simp, h _ ⟨z, rfl, rfl, by rw [ho]; rfl⟩⟩) hj he hpl
end
/-! ### spans -/
abbrev Spn := Option Rat × Option Rat
abbrev sD (s : Spn) : D := .tup [oD s.1, oD s.2]
def SzO (k : Nat) (o : Option Rat) : Prop := ∀ q, o = some q → Sz k q
def SzS (k : Nat) (s : Spn) : Prop := SzO k s.1 ∧ SzO k s.2
theorem SzO.mono {j k : Nat} {o : Option Rat} (h : SzO j o) (e : j ≤ k) : SzO k o := fun q hq => (h q hq).mono e
theorem SzS.mono {j k : Nat} {s : Spn} (h : SzS j s) (e : j ≤ k) : SzS k s := ⟨h.1.mono e, h.2.mono e⟩
def OrdS (s : Spn) : Prop := ∀ a b, s.1 = some a → s.2 = some b → ¬ b < a
def loIn (o : Option Rat) (t : Rat) : Bool := match o with
  | none => true
  | some a => !decide (t < a)
def hiIn (o : Option Rat) (t : Rat) : Bool := match o with
  | none => true
  | some a => !decide (a < t)
def inS (s : Spn) (t : Rat) : Bool := loIn s.1 t && hiIn s.2 t
def crossB (lo hi : Option Rat) : Bool := match lo, hi with
  | some a, some b => decide (b < a)
  | _, _ => false
def maxQ (a b : Rat) : Rat := if a < b then b else a
def minQ (a b : Rat) : Rat := if b < a then b else a
def meetLo (a b : Option Rat) : Option Rat := match a, b with
  | none, o => o
  | some x, none => some x
  | some x, some y => some (maxQ x y)
def meetHi (a b : Option Rat) : Option Rat := match a, b with
  | none, o => o
  | some x, none => some x
  | some x, some y => some (minQ x y)
def meetQ (a b : Spn) : Option Spn := if crossB (meetLo a.1 b.1) (meetHi a.2 b.2) then none else some (meetLo a.1 b.1, meetHi a.2 b.2)
def oS : Option Spn → D
  | none => .non
  | some s => sD s
def inO (o : Option Spn) (t : Rat) : Bool := match o with
  | none => false
  | some s => inS s t
def shQ (s : Spn) (d : Rat) : Spn := (s.1.map (· + d), s.2.map (· + d))
def mirQ (s : Spn) : Spn := (s.2.map (- ·), s.1.map (- ·))
abbrev Stp := Rat × Rat × Rat × Rat
abbrev stD (x : Stp) : D := .tup [qD x.1, qD x.2.1, qD x.2.2.1, qD x.2.2.2]
def thereQ (x : Stp) : Rat := x.2.1 - x.1
def homeQ (x : Stp) : Rat := x.2.2.2 - x.2.2.1
def offQ (x : Stp) (f b : Spn) : Option Spn := meetQ (shQ (mirQ f) (x.2.1 - x.1)) (shQ b (x.2.2.1 - x.2.2.2))
def plainQ (x : Stp) : Rat := ((x.2.1 - x.1) + (x.2.2.1 - x.2.2.2)) / fr 2 1
theorem lo_meet (a b : Option Rat) (t : Rat) : loIn (meetLo a b) t = (loIn a t && loIn b t) := by
  cases a <;> cases b <;> simp only [meetLo, loIn, Bool.true_and, Bool.and_true, Bool.and_self]
  rename_i x y
  unfold maxQ
  rw [Bool.eq_iff_iff]
  by_cases h : x < y <;> simp only [h, if_true, if_false, Bool.and_eq_true, Bool.not_eq_true', decide_eq_false_iff_not] <;> grind
theorem hi_meet (a b : Option Rat) (t : Rat) : hiIn (meetHi a b) t = (hiIn a t && hiIn b t) := by
  cases a <;> cases b <;> simp only [meetHi, hiIn, Bool.true_and, Bool.and_true, Bool.and_self]
  rename_i x y
  unfold minQ
  rw [Bool.eq_iff_iff]
  by_cases h : y < x <;> simp only [h, if_true, if_false, Bool.and_eq_true, Bool.not_eq_true', decide_eq_false_iff_not] <;> grind
theorem cross_in {lo hi : Option Rat} {t : Rat} (h : crossB lo hi = true) : (loIn lo t && hiIn hi t) = false := by
  unfold crossB at h
  split at h
  · rename_i a b
    have h' := of_decide_eq_true h
    unfold loIn hiIn
    rw [Bool.eq_false_iff]
    simp only [ne_eq, Bool.and_eq_true, Bool.not_eq_true', decide_eq_false_iff_not]
    grind
  · cases h
theorem in_meet (a b : Spn) (t : Rat) : inO (meetQ a b) t = (inS a t && inS b t) := by
  have e : (inS a t && inS b t) = (loIn (meetLo a.1 b.1) t && hiIn (meetHi a.2 b.2) t) := by
    rw [lo_meet, hi_meet]
    unfold inS
    cases loIn a.1 t <;> cases hiIn a.2 t <;> cases loIn b.1 t <;> cases hiIn b.2 t <;> rfl
  rw [e]
  unfold meetQ
  cases h : crossB (meetLo a.1 b.1) (meetHi a.2 b.2) with
  | true => rw [if_pos rfl, cross_in h]; rfl
  | false => rw [if_neg (by simp)]; rfl
theorem lo_add (o : Option Rat) (d t : Rat) : loIn (o.map (· + d)) t = loIn o (t - d) := by
  cases o with
  | none => rfl
  | some a =>
    have : t < a + d ↔ t - d < a := by constructor <;> intro h <;> grind
    simp [loIn, this]
theorem hi_add (o : Option Rat) (d t : Rat) : hiIn (o.map (· + d)) t = hiIn o (t - d) := by
  cases o with
  | none => rfl
  | some a =>
    have : a + d < t ↔ a < t - d := by constructor <;> intro h <;> grind
    simp [hiIn, this]
theorem in_sh (s : Spn) (d t : Rat) : inS (shQ s d) t = inS s (t - d) := by
  unfold inS shQ
  rw [lo_add, hi_add]
theorem in_mir (s : Spn) (t : Rat) : inS (mirQ s) t = inS s (-t) := by
  obtain ⟨a, b⟩ := s
  have h1 : loIn (b.map (- ·)) t = hiIn b (-t) := by
    cases b with
    | none => rfl
    | some b =>
      have : t < -b ↔ b < -t := by constructor <;> intro h <;> grind
      simp [loIn, hiIn, this]
  have h2 : hiIn (a.map (- ·)) t = loIn a (-t) := by
    cases a with
    | none => rfl
    | some b =>
      have : -b < t ↔ -t < b := by constructor <;> intro h <;> grind
      simp [loIn, hiIn, this]
  unfold inS mirQ
  rw [h1, h2, Bool.and_comm]
theorem in_off (x : Stp) (f b : Spn) (t : Rat) : inO (offQ x f b) t = (inS f (thereQ x - t) && inS b (homeQ x + t)) := by
  unfold offQ
  rw [in_meet, in_sh, in_mir, in_sh]
  congr 2
  · unfold thereQ; grind
  · unfold homeQ; grind
theorem off_ord {x : Stp} {f b : Spn} {s : Spn} (h : offQ x f b = some s) : OrdS s := by
  unfold offQ meetQ at h
  split at h
  · cases h
  · rename_i hc
    cases h
    intro a b h1 h2 h3
    apply hc
    simp only at h1 h2
    rw [h1, h2]
    simp [crossB, h3]
theorem SzO.map_add {j k m : Nat} {o : Option Rat} {d : Rat} (h : SzO j o) (hd : Sz k d) (e : j + k + 1 ≤ m) : SzO m (o.map (· + d)) := fun q hq => by
  obtain ⟨a, ha, rfl⟩ := Option.map_eq_some_iff.mp hq
  exact ((h a ha).add hd).mono e
theorem SzO.map_neg {j : Nat} {o : Option Rat} (h : SzO j o) : SzO j (o.map (- ·)) := fun q hq => by
  obtain ⟨a, ha, rfl⟩ := Option.map_eq_some_iff.mp hq
  exact (h a ha).neg
theorem SzO.meetLo {k : Nat} {a b : Option Rat} (ha : SzO k a) (hb : SzO k b) : SzO k (DL.meetLo a b) := fun q hq => by
  unfold DL.meetLo at hq
  split at hq
  · exact hb q hq
  · exact ha q hq
  · cases hq
    unfold maxQ
    split
    · exact hb _ rfl
    · exact ha _ rfl
theorem SzO.meetHi {k : Nat} {a b : Option Rat} (ha : SzO k a) (hb : SzO k b) : SzO k (DL.meetHi a b) := fun q hq => by
  unfold DL.meetHi at hq
  split at hq
  · exact hb q hq
  · exact ha q hq
  · cases hq
    unfold minQ
    split
    · exact hb _ rfl
    · exact ha _ rfl
theorem off_sz {x : Stp} {f b s : Spn} {j k : Nat} (h : offQ x f b = some s) (hx : Sz j x.1 ∧ Sz j x.2.1 ∧ Sz j x.2.2.1 ∧ Sz j x.2.2.2) (hf : SzS k f) (hb : SzS k b) : SzS (k + 2 * j + 2) s := by
  unfold offQ meetQ at h
  split at h
  · cases h
  · cases h
    have d1 := hx.2.1.sub hx.1
    have d2 := hx.2.2.1.sub hx.2.2.2
    exact ⟨SzO.meetLo ((hf.2.map_neg).map_add d1 (by omega)) (hb.1.map_add d2 (by omega)), SzO.meetHi ((hf.1.map_neg).map_add d1 (by omega)) (hb.2.map_add d2 (by omega))⟩
theorem two_inv : (fr 2 1)⁻¹ = fr 1 2 := by decide +kernel
theorem plain_ok {x : Stp} : thereQ x - plainQ x = homeQ x + plainQ x := by
  unfold plainQ
  rw [← div_eq, two_inv]
  have e : fr 1 2 = 1 / 2 := by decide +kernel
  rw [e]
  unfold thereQ homeQ
  grind
theorem half_ok {x : Stp} {s t : Spn} {a b : Rat} (h1 : s.1 = some a) (h2 : s.2 = some b) (ho : ¬ b < a) (h : offQ x s s = some t) : ∃ l u, t.1 = some l ∧ t.2 = some u ∧ ¬ b - a < fr 2 1 * (plainQ x - l) ∧ ¬ b - a < fr 2 1 * (l - plainQ x) ∧ ¬ b - a < fr 2 1 * (plainQ x - u) ∧ ¬ b - a < fr 2 1 * (u - plainQ x) := by
  have hord := off_ord h
  obtain ⟨s1, s2⟩ := s
  simp only at h1 h2
  subst h1 h2
  have e2 : fr 2 1 = 2 := by decide +kernel
  have ep := plain_ok (x := x)
  unfold offQ meetQ at h
  split at h
  · cases h
  · rename_i hc
    cases h
    have hc2 : ¬ minQ (-a + (x.2.1 - x.1)) (b + (x.2.2.1 - x.2.2.2)) < maxQ (-b + (x.2.1 - x.1)) (a + (x.2.2.1 - x.2.2.2)) := fun z => hc (decide_eq_true z)
    refine ⟨maxQ (-b + (x.2.1 - x.1)) (a + (x.2.2.1 - x.2.2.2)), minQ (-a + (x.2.1 - x.1)) (b + (x.2.2.1 - x.2.2.2)), rfl, rfl, ?_⟩
    rw [e2]
    unfold thereQ homeQ at ep
    unfold maxQ minQ at hc2 ⊢
    by_cases c1 : -b + (x.2.1 - x.1) < a + (x.2.2.1 - x.2.2.2) <;> by_cases c2 : b + (x.2.2.1 - x.2.2.2) < -a + (x.2.1 - x.1) <;> simp only [c1, c2, if_true, if_false] at hc2 ⊢ <;> refine ⟨?_, ?_, ?_, ?_⟩ <;> grind
theorem cmp_gt {a b : Rat} : decide (cmpQ a b > 0) = decide (b < a) := by
  unfold cmpQ
  by_cases h1 : a < b
  · have : ¬ b < a := by grind
    simp [h1, this]
  · by_cases h2 : b < a <;> simp [h1, h2]
/-- all ends -/
def endsQ (ss : List Spn) : List Rat := ss.flatMap fun s => s.1.toList ++ s.2.toList
def St4 (k : Nat) (x : Stp) : Prop := Sz k x.1 ∧ Sz k x.2.1 ∧ Sz k x.2.2.1 ∧ Sz k x.2.2.2
def ST_cmp2 (f : Rat → Rat → Rat) : Sg := fun ps Post => ∃ (a b : Rat) (j k : Nat), ps = [.d (qD a), .d (qD b)] ∧ Sz j a ∧ Sz k b ∧ j + k ≤ 8000 ∧ Post (.d (qD (f a b))) []
def ST_cross : Sg := fun ps Post => ∃ (a b : Option Rat) (k : Nat), ps = [.d (oD a), .d (oD b)] ∧ SzO k a ∧ SzO k b ∧ k ≤ 3900 ∧ Post (.d (.bl (crossB a b))) []
def ST_meet : Sg := fun ps Post => ∃ (a b : Spn) (k : Nat), ps = [.d (sD a), .d (sD b)] ∧ SzS k a ∧ SzS k b ∧ k ≤ 3900 ∧ Post (.d (oS (meetQ a b))) []
def ST_shift : Sg := fun ps Post => ∃ (s : Spn) (d : Rat) (j k : Nat), ps = [.d (sD s), .d (qD d)] ∧ SzS j s ∧ Sz k d ∧ j + k ≤ 7900 ∧ Post (.d (sD (shQ s d))) []
def ST_mirrored : Sg := fun ps Post => ∃ s : Spn, ps = [.d (sD s)] ∧ Post (.d (sD (mirQ s))) []
def ST_offspan : Sg := fun ps Post => ∃ (x : Stp) (f b : Spn) (j k : Nat), ps = [.d (stD x), .d (sD f), .d (sD b)] ∧ St4 j x ∧ SzS k f ∧ SzS k b ∧ k + 2 * j + 10 ≤ 3900 ∧ Post (.d (oS (offQ x f b))) []
def ST_trip : Sg := fun ps Post => ∃ (x : Stp) (j : Nat), ps = [.d (stD x)] ∧ St4 j x ∧ 4 * j + 10 ≤ 7900 ∧ Post (.d (qD ((x.2.2.2 - x.1) - (x.2.2.1 - x.2.1)))) []
def ST_plainoff : Sg := fun ps Post => ∃ (x : Stp) (j : Nat), ps = [.d (stD x)] ∧ St4 j x ∧ 4 * j + 10 ≤ 7800 ∧ Post (.d (qD (plainQ x))) []
def PSpare (q : Rat) : Prop := Sd 60 24 q ∧ ¬ q < 0
def ST_lspan : Sg := fun ps Post => ∃ r : Nat, ps = [.own .sto, .d (.int (r : Int))] ∧ r ≤ 1000000 ∧ ∀ s : Spn, OrdS s → SzS 24 s → Post (.d (sD s)) [.sto]
def ST_inspan : Sg := fun ps Post => ∃ (s : Spn) (t : Rat) (j k : Nat), ps = [.w (sD s), .w (qD t)] ∧ SzS j s ∧ Sz k t ∧ j + k ≤ 7900 ∧ Post (.d (.bl (inS s t))) []
def ST_isspan : Sg := fun ps Post => ∃ (s : Spn) (k : Nat), ps = [.w (sD s)] ∧ OrdS s ∧ SzS k s ∧ k ≤ 3900 ∧ Post (.d (.bl true)) []
def ST_stamps : Sg := fun ps Post => ps = [.own .sto] ∧ ∀ x : Stp, St4 6 x → Post (.d (stD x)) [.sto]
def ST_round : Sg := fun ps Post => ∃ (q : Rat) (k : Nat), ps = [.own .sto, .w (qD q)] ∧ Sz k q ∧ k ≤ 3000 ∧ ∀ s : Spn, OrdS s → SzS (k + 20) s → Post (.d (sD s)) [.sto]
def ST_widespan : Sg := fun ps Post => ps = [.own .sto] ∧ ∀ s : Spn, OrdS s → SzS 41 s → Post (.d (sD s)) [.sto]
def ST_drawn : Sg := fun ps Post => ps = [.own .sto] ∧ ∀ (x : Stp) (f b : Spn), St4 41 x → OrdS f → OrdS b → SzS 130 f → SzS 130 b → Post (.d (.tup [stD x, sD f, sD b])) [.sto]
def ST_offok : Sg := fun ps Post => ∃ (x : Stp) (f b : Spn) (j k : Nat), ps = [.w (stD x), .w (sD f), .w (sD b), .w (oS (offQ x f b))] ∧ St4 j x ∧ SzS k f ∧ SzS k b ∧ 2 * k + 6 * j + 40 ≤ 1900 ∧ Post (.d (.bl true)) []
def ST_plainok : Sg := fun ps Post => ∃ (x : Stp) (j : Nat), ps = [.w (stD x), .w (qD (plainQ x))] ∧ St4 j x ∧ 8 * j + 40 ≤ 3900 ∧ Post (.d (.bl true)) []
def ST_halfok : Sg := fun ps Post => ∃ (x : Stp) (s : Spn) (j k : Nat), ps = [.w (sD s), .w (oS (offQ x s s)), .w (qD (plainQ x))] ∧ OrdS s ∧ St4 j x ∧ SzS k s ∧ 2 * k + 8 * j + 40 ≤ 1900 ∧ Post (.d (.bl true)) []
theorem plain_sz {x : Stp} {j : Nat} (h : St4 j x) : Sz (4 * j + 5) (plainQ x) := by
  unfold plainQ
  rw [← div_eq, two_inv]
  exact (((h.2.1.sub h.1).add (h.2.2.1.sub h.2.2.2)).mul sz_half).mono (by omega)
theorem fr_ge0 {n d : Int} (hn : 0 ≤ n) (hd : 0 < d) : ¬ fr n d < 0 := by
  rcases Int.lt_or_eq_of_le hn with h | h
  · have := fr_gt0 h hd; grind
  · subst h
    unfold fr
    rw [Rat.zero_divInt]
    exact Rat.lt_irrefl
theorem fr_le {a b d : Int} (h : a ≤ b) (hd : 0 < d) : ¬ fr b d < fr a d := by
  have h1 := fr_ge0 (n := b - a) (d := d) (by omega) hd
  have e : fr b d = fr a d + fr (b - a) d := by
    unfold fr
    rw [Rat.divInt_add_divInt _ _ (by omega) (by omega), ← Int.add_mul, Rat.divInt_mul_right (by omega)]
    congr 1; omega
  grind
def ST_probesG : Sg := fun ps Post => ∃ (x : D) (ss : List Spn) (k : Nat), ps = [.w x] ∧ x = .lst (ss.map sD) ∧ (∀ q ∈ endsQ ss, Sz k q) ∧ k ≤ 3900 ∧ ss.length ≤ 20000 ∧ ∀ ts : List Rat, (∀ t ∈ ts, Sz (2 * k + 10) t) → (endsQ ss ≠ [] → ∃ t ∈ ts, ∀ q ∈ endsQ ss, q < t) → ts.length ≤ 100000 → Post (.own (.lst (ts.map qD))) []
theorem ends_snoc {ss : List Spn} {s : Spn} : endsQ (ss ++ [s]) = endsQ ss ++ (s.1.toList ++ s.2.toList) := by
  unfold endsQ
  rw [List.flatMap_append]; simp
theorem ends_len : ∀ (ss : List Spn), (endsQ ss).length ≤ 2 * ss.length
  | [] => Nat.le_refl _
  | s :: ss => by
    have := ends_len ss
    unfold endsQ at *
    rw [List.flatMap_cons, List.length_append, List.length_append, List.length_cons]
    have h1 : s.1.toList.length ≤ 1 := by cases s.1 <;> simp
    have h2 : s.2.toList.length ≤ 1 := by cases s.2 <;> simp
    omega
theorem list4 {α : Type} {us : List α} (h : us.length = 4) : ∃ a b c d, us = [a, b, c, d] := by
  match us, h with
  | [a, b, c, d], _ => exact ⟨a, b, c, d, rfl⟩
def IsQ (d : D) : Prop := ∃ (x : Stp) (f b : Spn), d = .tup [stD x, sD f, sD b] ∧ St4 41 x ∧ OrdS f ∧ OrdS b ∧ SzS 130 f ∧ SzS 130 b
theorem eqv_bb (a b : Bool) : (D.bl a).eqv (D.bl b) = decide (a = b) := by cases a <;> cases b <;> rfl
end DL

end
section
set_option Elab.async false
set_option linter.all false
set_option maxRecDepth 100000
set_option maxHeartbeats 400000
namespace Lw
open PySem L2 DL
def top (i : Nat) : Stmt := PySem.Challenge.pw_clockverdict_k15_offset_span.main.body.getD i (.Pass ⟨0, 0, 0, 0⟩)
abbrev v_TWO : D := .tup [.int 2, .int 1]

/-! _law_store -/
abbrev s_l_store : Stmt := top 24
abbrev n_l_store : Nm := { N := ["_law_script"], V := [0], as := [0], GN := ["list"], k := 0, oi := [], lc := [0], sc := none }
theorem sc_l_store : FnScope n_l_store.N ["_law_script"] (defScope s_l_store) := ⟨rfl, rfl, rfl, by decide +kernel, rfl, by decide +kernel, by decide +kernel⟩
theorem sb_l_store : ScOk (defScope s_l_store) n_l_store := scOk_of (by decide +kernel)
abbrev S_l_store : Sg := ST_store
theorem bd_l_store {X : Cx} {c : Cc} (b_list : Blt X "list" (.type "list")) : ∀ ps Post, S_l_store ps Post → WB X n_l_store c (entry n_l_store.N ps) (defBody s_l_store) (fnD n_l_store.oi Post) := by
  rintro ps Post ⟨ns, rfl, hz, post⟩
  show WB X n_l_store c [.sc ns] _ _
  refine wb_one (ws_retO (wo_lst (wa_cons (wk_e (we_frz (wo_of (eo_listSc b_list 0 0) ⟨_, rfl, wa_cons (wk_e (we_of ev_int (wa_cons (wk_e (we_of ev_int (wa_cons (wk_e (we_of ev_int (wa_cons (wk_e (we_of ev_int (wa_cons (wk_e (we_of ev_int (wa_nil ?_)))))))))))))))⟩))))))
  refine ⟨_, rfl, Nat.le_of_ble_eq_true rfl, .own .sto, [], .inr ⟨rfl, ns, 0, 0, 1, 0, 0, rfl, ?_⟩, rfl, post⟩
  exact ⟨hz, ⟨by omega, by omega⟩, by omega, ⟨by omega, by omega⟩, ⟨by omega, by omega⟩, by omega⟩


/-! _law_feed -/
abbrev s_l_feed : Stmt := top 25
abbrev n_l_feed : Nm := { N := ["_law_store_here", "_law_cell"], V := [0, 1], as := [0, 1], GN := ["int", "abs"], k := 0, oi := [0], lc := [0, 1], sc := none }
theorem sc_l_feed : FnScope n_l_feed.N ["_law_store_here"] (defScope s_l_feed) := ⟨rfl, rfl, rfl, by decide +kernel, rfl, by decide +kernel, by decide +kernel⟩
theorem sb_l_feed : ScOk (defScope s_l_feed) n_l_feed := scOk_of (by decide +kernel)
abbrev S_l_feed : Sg := ST_feed
theorem bd_l_feed {X : Cx} {c : Cc} (b_int : Blt X "int" (.type "int")) (b_abs : Blt X "abs" (.builtin "abs")) : ∀ ps Post, S_l_feed ps Post → WB X n_l_feed c (entry n_l_feed.N ps) (defBody s_l_feed) (fnD n_l_feed.oi Post) := by
  rintro ps Post ⟨ns, pl, great, st, left, cnt, rfl, ⟨b1, ⟨b2, b3⟩, b4, ⟨b5, b6⟩, ⟨b7, b8⟩, b9⟩, hp, post⟩
  show WB X n_l_feed c [.own (.lst (stoD ns pl great st left cnt)), .no] _ _
  obtain ⟨cell, hc⟩ : ∃ cell : Int, ns[pl]? = some cell := ⟨_, List.getElem?_eq_getElem hp⟩
  refine wb_cons (ws_set 1 (we_of (ev_toint b_int 0 (ev_ixt (ev_ix (ek_s 0) ev_int rfl) (ev_ix (ek_s 0) ev_int rfl) (at_lst (z := .int cell) (by rw [List.getElem?_map, hc]; rfl)))) ?_))
  refine wb_cons (ws_setIx 0 (we_of (ev_add (ev_ix (ek_s 0) ev_int rfl) ev_int) (we_of ev_int ⟨_, _, 1, rfl, rfl, rfl, ?_⟩)))
  refine wb_cons (ws_setIx 0 (we_of (ev_mod (ev_toint b_int 0 (ev_add (ev_mul64 (ev_ix (ek_s 0) ev_int rfl) ev_int (.inr ⟨by decide, by decide⟩)) (ev_var 1))) ev_int (by decide)) (we_of ev_int ⟨_, _, 3, rfl, rfl, rfl, ?_⟩)))
  have m1 : 0 ≤ (st * 30011 + cell).fmod 1000000007 := Int.fmod_nonneg_of_pos _ (by decide)
  have m2 : (st * 30011 + cell).fmod 1000000007 < 1000000007 := Int.fmod_lt_of_pos _ (by decide)
  refine wb_one (ws_ifE (EW.t (ew_or (et_ge (ev_var 1) (ev_pow ev_int ev_int ⟨by decide, by decide, by decide⟩)) fun _ => ew_or1 (et_le (ev_var 1) (ev_sub ev_int (ev_pow ev_int ev_int ⟨by decide, by decide, by decide⟩))))) (fun h => wb_one (ws_setIx 0 (we_of (ev_abs b_abs 1 (ev_var 1)) (we_of ev_int ⟨_, _, 2, rfl, rfl, rfl, ?_⟩)))) (fun h => wb_one (ws_setIx 0 (we_of ev_int (we_of ev_int ⟨_, _, 4, rfl, rfl, rfl, ?_⟩)))))
  · refine ⟨[.sto], ⟨_, .sto, [], rfl, rfl, .inr ⟨rfl, ns, (pl : Int) + 1, if cell < 0 then -cell else cell, (st * 30011 + cell).fmod 1000000007, left, cnt, rfl, ?_⟩, rfl⟩, post⟩
    exact ⟨b1, ⟨by omega, by omega⟩, by split <;> omega, ⟨m1, m2⟩, ⟨b7, b8⟩, b9⟩
  · refine ⟨[.sto], ⟨_, .sto, [], rfl, rfl, .inr ⟨rfl, ns, (pl : Int) + 1, great, (st * 30011 + cell).fmod 1000000007, 3, cnt, rfl, ?_⟩, rfl⟩, post⟩
    exact ⟨b1, ⟨by omega, by omega⟩, b4, ⟨m1, m2⟩, ⟨by omega, by omega⟩, b9⟩


/-! _law_mixed -/
abbrev s_l_mixed : Stmt := top 26
abbrev n_l_mixed : Nm := { N := ["_law_store_here"], V := [0], as := [0], GN := ["int"], k := 0, oi := [0], lc := [0], sc := none }
theorem sc_l_mixed : FnScope n_l_mixed.N ["_law_store_here"] (defScope s_l_mixed) := ⟨rfl, rfl, rfl, by decide +kernel, rfl, by decide +kernel, by decide +kernel⟩
theorem sb_l_mixed : ScOk (defScope s_l_mixed) n_l_mixed := scOk_of (by decide +kernel)
abbrev S_l_mixed : Sg := ST_mixed
theorem bd_l_mixed {X : Cx} {c : Cc} (b_int : Blt X "int" (.type "int")) : ∀ ps Post, S_l_mixed ps Post → WB X n_l_mixed c (entry n_l_mixed.N ps) (defBody s_l_mixed) (fnD n_l_mixed.oi Post) := by
  rintro ps Post ⟨ns, place, great, st, left, cnt, rfl, ⟨b1, ⟨b2, b3⟩, b4, ⟨b5, b6⟩, ⟨b7, b8⟩, b9⟩, post⟩
  show WB X n_l_mixed c [.own (.lst (stoD ns place great st left cnt))] _ _
  refine wb_cons (ws_setIx 0 (we_of (ev_add (ev_ix (ek_s 0) ev_int rfl) ev_int) (we_of ev_int ⟨_, _, 5, rfl, rfl, rfl, ?_⟩)))
  refine wb_cons (ws_setIx 0 (we_of (ev_mod (ev_toint b_int 0 (ev_add (ev_add (ev_mul64 (ev_ix (ek_s 0) ev_int rfl) ev_int (.inr ⟨by decide, by decide⟩)) (ev_mul64 (ev_ix (ek_s 0) ev_int rfl) ev_int (.inr ⟨by decide, by decide⟩))) ev_int)) ev_int (by decide)) (we_of ev_int ⟨_, _, 3, rfl, rfl, rfl, ?_⟩)))
  have m1 : 0 ≤ (st * 70003 + (cnt + 1) * 1009 + 1).fmod 1000000007 := Int.fmod_nonneg_of_pos _ (by decide)
  have m2 : (st * 70003 + (cnt + 1) * 1009 + 1).fmod 1000000007 < 1000000007 := Int.fmod_lt_of_pos _ (by decide)
  refine wb_one (ws_ret (we_of (ev_mod (ev_toint b_int 0 (ev_add (ev_mul64 (ev_ix (ek_s 0) ev_int rfl) ev_int (.inr ⟨by decide, by decide⟩)) (ev_fdiv (ev_ix (ek_s 0) ev_int rfl) ev_int ⟨by decide, by decide⟩))) ev_int (by decide)) ?_))
  refine ⟨_, [.sto], rfl, ⟨_, .sto, [], rfl, rfl, .inr ⟨rfl, ns, place, great, (st * 70003 + (cnt + 1) * 1009 + 1).fmod 1000000007, left, cnt + 1, rfl, ?_⟩, rfl⟩, post _ (Int.fmod_nonneg_of_pos _ (by decide)) (Int.fmod_lt_of_pos _ (by decide))⟩
  exact ⟨b1, ⟨b2, b3⟩, b4, ⟨m1, m2⟩, ⟨b7, b8⟩, by omega⟩


/-! _law_take -/
abbrev s_l_take : Stmt := top 27
abbrev n_l_take : Nm := { N := ["_law_store_here", "_law_many", "_law_number"], V := [0, 1, 2], as := [0, 1, 2], GN := ["max", "len", "_law_feed", "int", "_law_mixed"], k := 1, oi := [0], lc := [0, 1, 2], sc := none }
theorem sc_l_take : FnScope n_l_take.N ["_law_store_here", "_law_many"] (defScope s_l_take) := ⟨rfl, rfl, rfl, by decide +kernel, rfl, by decide +kernel, by decide +kernel⟩
theorem sb_l_take : ScOk (defScope s_l_take) n_l_take := scOk_of (by decide +kernel)
abbrev S_l_take : Sg := ST_take
theorem bd_l_take {X : Cx} {c : Cc} (b_max : Blt X "max" (.builtin "max")) (b_len : Blt X "len" (.builtin "len")) (c_l_feed : CalF X n_l_take.k "_law_feed" S_l_feed) (b_int : Blt X "int" (.type "int")) (c_l_mixed : CalF X n_l_take.k "_law_mixed" S_l_mixed) : ∀ ps Post, S_l_take ps Post → WB X n_l_take c (entry n_l_take.N ps) (defBody s_l_take) (fnD n_l_take.oi Post) := by
  rintro ps Post ⟨many0, rfl, hB, post⟩
  show WB X n_l_take c [.own .sto, .d (.int many0), .no] _ _
  refine wb_cons (ws_set 1 (we_of (ev_max b_max 0 ev_int (ev_var 1)) ?_))
  generalize hm : (if many0 > 1 then many0 else 1) = many at *
  have h1 : 1 ≤ many := by rw [← hm]; split <;> omega
  have hB' : Bt 8000 many := by
    rw [← hm]; split
    · exact hB
    · show Int.natAbs 1 < 2 ^ 8000
      exact Nat.one_lt_two_pow (by decide)
  have hd : ∀ i, CDivA i many := fun i => hB'.cd (by omega) (by decide)
  have k0 : ∀ i : Int, 0 ≤ i.fmod many := fun i => Int.fmod_nonneg_of_pos _ (by omega)
  have k1 : ∀ i : Int, i.fmod many < many := fun i => Int.fmod_lt_of_pos _ (by omega)
  refine wb_open 0 rfl fun ns place great st left cnt hs => ?_
  refine wb_cut (fun Γ => Γ = [.own .sto, .d (.int many), .no] ∨ ∃ ns place great st left cnt, StoreB ns place great st left cnt ∧ Γ = [.own (.lst (stoD ns place great st left cnt)), .d (.int many), .no]) (ws_ifE (EW.t (ew_and (et_eq (ev_ix (ek_s 0) ev_int rfl) ev_int) fun _ => ew_and (et_eq (ev_ix (ek_s 0) ev_int rfl) ev_int) fun _ => ew_and1 (et_lt (ev_ix (ek_s 0) ev_int rfl) (ev_len (x := .lst (ns.map .int)) (m := (ns.map D.int).length) b_len 1 (ek_d (ev_ix (ek_s 0) ev_int rfl)))))) (fun h => ?_) (fun h => wb_nil (.inr ⟨ns, place, great, st, left, cnt, hs, rfl⟩))) ?_
  · refine wb_one (ws_expr (we_callE c_l_feed 2 (ea_cons (ek_o 0) ea_nil) ?_))
    have hp : place < (ns.length : Int) := by
      have := h
      simp only [Bool.and_eq_true, decide_eq_true_eq, List.length_map] at this
      exact this.2.2
    have hp0 : 0 ≤ place := hs.2.1.1
    obtain ⟨pl, rfl⟩ := Int.eq_ofNat_of_zero_le hp0
    exact ⟨ns, pl, great, st, left, cnt, rfl, hs, by omega, .non, rfl, .inl rfl⟩
  have main : ∀ ns place great st left cnt, StoreB ns place great st left cnt → WB X n_l_take c [.own (.lst (stoD ns place great st left cnt)), .d (.int many), .no] (List.drop 2 (defBody s_l_take)) (fnD (n_l_take).oi Post) := by
    intro ns place great st left cnt hs
    have ⟨b1, ⟨b2, b3⟩, b4, ⟨b5, b6⟩, ⟨b7, b8⟩, b9⟩ := hs
    refine wb_cut (fun Γ => Γ = [.own (.lst (stoD ns place great st left cnt)), .d (.int many), .no]) (ws_ifE (et_gt (ev_ix (ek_s 0) ev_int rfl) ev_int) (fun h => ?_) (fun h => wb_nil rfl)) ?_
    · have hg : 0 < great := of_decide_eq_true h
      refine wb_cons (ws_set 2 (we_of (ev_ix (ek_s 0) ev_int rfl) ?_))
      refine wb_cons (ws_setIx 0 (we_of (ev_fdiv (ev_var 2) (ev_var 1) (hd _)) (we_of ev_int ⟨_, _, 2, rfl, rfl, rfl, ?_⟩)))
      refine wb_one (ws_ret (we_of (ev_mod (ev_toint b_int 3 (ev_var 2)) (ev_var 1) (by omega)) ?_))
      refine ⟨_, [.sto], rfl, ⟨_, .sto, [], rfl, rfl, .inr ⟨rfl, ns, place, great.fdiv many, st, left, cnt, rfl, ?_⟩, rfl⟩, post _ (k0 _) (k1 _)⟩
      exact ⟨b1, ⟨b2, b3⟩, Int.fdiv_nonneg b4 (by omega), ⟨b5, b6⟩, ⟨b7, b8⟩, b9⟩
    rintro Γ rfl
    refine wb_cons (ws_setIx 0 (we_of (ev_max b_max 0 ev_int (ev_sub (ev_ix (ek_s 0) ev_int rfl) ev_int)) (we_of ev_int ⟨_, _, 4, rfl, rfl, rfl, ?_⟩)))
    refine wb_cons (ws_set 2 (we_callE c_l_mixed 4 (ea_cons (ek_o 0) ea_nil) ?_))
    refine ⟨ns, place, great, st, if left - 1 > 0 then left - 1 else 0, cnt, rfl, ⟨b1, ⟨b2, b3⟩, b4, ⟨b5, b6⟩, by constructor <;> split <;> omega, b9⟩, fun m m0 m1 => ⟨.int m, rfl, ?_⟩⟩
    show WB X n_l_take c [.own .sto, .d (.int many), .d (.int m)] _ _
    refine wb_open 0 rfl fun ns place great st left cnt hs => ?_
    refine wb_cut (fun Γ => ∃ (o : OB) (m : Int), Γ = [.own o, .d (.int many), .d (.int m)] ∧ o.le .sto) (ws_ifE (et_gt (ev_var 1) ev_int) (fun h => wb_one (ws_set 2 ?_)) (fun h => wb_nil ⟨_, m, rfl, .inr ⟨rfl, ns, place, great, st, left, cnt, rfl, hs⟩⟩)) ?_
    · refine we_bin dop_add (wk_e (we_of (ev_var 2) (wk_e (we_bin dop_mul64 (wk_e (we_callE c_l_mixed 4 (ea_cons (ek_o 0) ea_nil) ⟨ns, place, great, st, left, cnt, rfl, hs, fun m2 _ _ => ⟨.int m2, rfl, wk_e (we_of ev_int ⟨_, _, rfl, rfl, m2, 1000000009, rfl, rfl, .inr ⟨by decide, by decide⟩, ?_⟩)⟩⟩))))))
      exact ⟨_, _, rfl, rfl, _, _, rfl, rfl, trivial, .sto, _, rfl, .inl rfl⟩
    rintro Γ ⟨o, m, rfl, ho⟩
    refine wb_one (ws_ret (we_of (ev_mod (ev_toint b_int 3 (ev_var 2)) (ev_var 1) (by omega)) ?_))
    exact ⟨_, [.sto], rfl, ⟨o, .sto, [], rfl, rfl, ho, rfl⟩, post _ (k0 _) (k1 _)⟩
  rintro Γ (rfl | ⟨ns, place, great, st, left, cnt, hs, rfl⟩)
  · exact wb_open 0 rfl fun ns place great st left cnt hs => main ns place great st left cnt hs
  · exact main ns place great st left cnt hs


/-! _law_pick -/
abbrev s_l_pick : Stmt := top 28
abbrev n_l_pick : Nm := { N := ["_law_store_here", "_law_things"], V := [0, 1], as := [0, 1], GN := ["_law_take", "len"], k := 2, oi := [0], lc := [0, 1], sc := none }
theorem sc_l_pick : FnScope n_l_pick.N ["_law_store_here", "_law_things"] (defScope s_l_pick) := ⟨rfl, rfl, rfl, by decide +kernel, rfl, by decide +kernel, by decide +kernel⟩
theorem sb_l_pick : ScOk (defScope s_l_pick) n_l_pick := scOk_of (by decide +kernel)
abbrev S_l_pick : Sg := ST_pick
theorem bd_l_pick {X : Cx} {c : Cc} (c_l_take : CalF X n_l_pick.k "_law_take" S_l_take) (b_len : Blt X "len" (.builtin "len")) : ∀ ps Post, S_l_pick ps Post → WB X n_l_pick c (entry n_l_pick.N ps) (defBody s_l_pick) (fnD n_l_pick.oi Post) := by
  rintro ps Post ⟨x, m, rfl, hm, hz, h0, h1, hat, post⟩
  show WB X n_l_pick c [.own .sto, .w x] _ _
  refine wb_one (ws_ret (we_ix di_seq (wk_ek (ek_s 1) (wk_e (we_take c_l_take 0 0 (we_of (ev_len b_len 1 (ek_s 1) hm hz) ⟨rfl, m, rfl, h0, bt64 h1, fun k hk => ?_⟩))))))
  obtain ⟨y, hy⟩ := hat k hk
  exact ⟨x, _, rfl, rfl, k, y, rfl, hy, .d y, [.sto], rfl, ⟨.sto, .sto, [], rfl, rfl, .inl rfl, rfl⟩, post k y hk hy⟩


/-! _law_frac -/
abbrev s_l_frac : Stmt := top 31
abbrev n_l_frac : Nm := { N := ["_law_n", "_law_d", "_law_a", "_law_b"], V := [0, 1, 2, 3], as := [0, 1, 2, 3], GN := ["abs", "int"], k := 0, oi := [], lc := [0, 1, 2, 3], sc := none }
theorem sc_l_frac : FnScope n_l_frac.N ["_law_n", "_law_d"] (defScope s_l_frac) := ⟨rfl, rfl, rfl, by decide +kernel, rfl, by decide +kernel, by decide +kernel⟩
theorem sb_l_frac : ScOk (defScope s_l_frac) n_l_frac := scOk_of (by decide +kernel)
abbrev S_l_frac : Sg := ST_frac
theorem bd_l_frac {X : Cx} {c : Cc} (b_abs : Blt X "abs" (.builtin "abs")) (b_int : Blt X "int" (.type "int")) : ∀ ps Post, S_l_frac ps Post → WB X n_l_frac c (entry n_l_frac.N ps) (defBody s_l_frac) (fnD n_l_frac.oi Post) := by
  rintro ps Post ⟨n, d, rfl, bn, bd, post⟩
  show WB X n_l_frac c [.d (.int n), .d (.int d), .no, .no] _ _
  refine wb_cut (fun Γ => Γ = [.d (.int n), .d (.int d), .no, .no] ∧ d ≠ 0) (ws_ifE (et_eq (ev_var 1) ev_int) (fun h => wb_one (ws_ret (we_of (ev_tup (ea_cons (ek_d ev_int) (ea_cons (ek_d ev_int) ea_nil))) ⟨_, [], rfl, rfl, ?_⟩))) (fun h => wb_nil ⟨rfl, of_decide_eq_false h⟩)) ?_
  · have h0 : d = 0 := of_decide_eq_true h
    rw [h0, fr_zero] at post
    exact post
  rintro Γ ⟨rfl, h0⟩
  refine wb_cons (ws_set 2 (we_of (ev_abs b_abs 0 (ev_var 0)) ?_))
  refine wb_cons (ws_set 3 (we_of (ev_abs b_abs 0 (ev_var 1)) ?_))
  have e1 : (if n < 0 then -n else n) = (n.natAbs : Int) := by split <;> omega
  have e2 : (if d < 0 then -d else d) = (d.natAbs : Int) := by split <;> omega
  rw [e1, e2]
  refine wb_cut (fun Γ => Γ = [.d (.int n), .d (.int d), .d (.int (Int.gcd n d : Nat)), .d (.int 0)]) (ws_while (fun m Γ => ∃ u v : Nat, m = v ∧ Γ = [.d (.int n), .d (.int d), .d (.int (u : Int)), .d (.int (v : Int))] ∧ Nat.gcd u v = Int.gcd n d) d.natAbs ⟨n.natAbs, d.natAbs, rfl, rfl, rfl⟩ ?_) ?_
  · rintro v Γ ⟨u, _, rfl, rfl, hg⟩
    refine wt_of (et_gt (ev_var 3) ev_int) ⟨fun h => ?_, fun h => ?_⟩
    · have hv : (0 : Int) < (v : Int) := of_decide_eq_true h
      refine wb_one (ws_par 2 3 (wa_of (ea_cons (ek_d (ev_var 3)) (ea_cons (ek_d (ev_mod (ev_toint b_int 1 (ev_var 2)) (ev_var 3) (by omega))) ea_nil)) ⟨_, _, rfl, ?_⟩))
      refine ⟨u % v, Nat.mod_lt _ (by omega), v, u % v, rfl, ?_, ?_⟩
      · show [_, _, _, _] = _
        rw [Int.fmod_eq_emod_of_nonneg _ (by omega)]; rfl
      · rw [← hg, Nat.gcd_comm v, ← Nat.gcd_rec, Nat.gcd_comm]
    · have hv : ¬ ((0 : Int) < (v : Int)) := of_decide_eq_false h
      have hv : v = 0 := by omega
      subst hv
      show _ = _
      rw [← hg]; simp
  rintro Γ rfl
  have gz : Int.gcd n d ≠ 0 := fun z => h0 (Int.gcd_eq_zero_iff.mp z).2
  have gle : Int.gcd n d ≤ d.natAbs := Nat.le_of_dvd (by omega) (Nat.gcd_dvd_right _ _)
  refine wb_cut (fun Γ => Γ = [.d (.int n), .d (.int d), .d (.int (if d < 0 then 0 - (Int.gcd n d : Nat) else (Int.gcd n d : Nat))), .d (.int 0)]) (ws_ifE (et_lt (ev_var 1) ev_int) (fun h => wb_one (ws_set 2 (we_of (ev_sub ev_int (ev_var 2)) ?_))) (fun h => wb_nil ?_)) ?_
  · have := of_decide_eq_true h
    show [_, _, _, _] = _
    rw [if_pos this]
  · have := of_decide_eq_false h
    show [_, _, _, _] = _
    rw [if_neg this]
  rintro Γ rfl
  obtain ⟨f1, f2⟩ := frac_div (n := n) h0
  have sb : Bt 8000 (if d < 0 then 0 - ((Int.gcd n d : Nat) : Int) else ((Int.gcd n d : Nat) : Int)) := bd.le (by split <;> omega)
  have sz : (if d < 0 then 0 - ((Int.gcd n d : Nat) : Int) else ((Int.gcd n d : Nat) : Int)) ≠ 0 := by split <;> omega
  refine wb_one (ws_ret (we_of (ev_tup (ea_cons (ek_d (ev_fdiv (ev_var 0) (ev_var 2) (sb.cd sz (by decide)))) (ea_cons (ek_d (ev_fdiv (ev_var 1) (ev_var 2) (sb.cd sz (by decide)))) ea_nil))) ⟨_, [], rfl, rfl, ?_⟩))
  rw [f1, f2]; exact post


/-! _law_ratio -/
abbrev s_l_ratio : Stmt := top 37
abbrev n_l_ratio : Nm := { N := ["_law_store_here", "_law_top", "_law_sort"], V := [0, 1, 2], as := [0, 1, 2], GN := ["_law_take", "_law_pick", "_law_frac"], k := 3, oi := [0], lc := [0, 1, 2], sc := none }
theorem sc_l_ratio : FnScope n_l_ratio.N ["_law_store_here", "_law_top"] (defScope s_l_ratio) := ⟨rfl, rfl, rfl, by decide +kernel, rfl, by decide +kernel, by decide +kernel⟩
theorem sb_l_ratio : ScOk (defScope s_l_ratio) n_l_ratio := scOk_of (by decide +kernel)
abbrev S_l_ratio : Sg := ST_ratio
theorem bd_l_ratio {X : Cx} {c : Cc} (c_l_take : CalF X n_l_ratio.k "_law_take" S_l_take) (c_l_pick : CalF X n_l_ratio.k "_law_pick" S_l_pick) (c_l_frac : CalF X n_l_ratio.k "_law_frac" S_l_frac) : ∀ ps Post, S_l_ratio ps Post → WB X n_l_ratio c (entry n_l_ratio.N ps) (defBody s_l_ratio) (fnD n_l_ratio.oi Post) := by
  rintro ps Post ⟨top, rfl, h1, h2, post⟩
  show WB X n_l_ratio c [.own .sto, .d (.int top), .no] _ _
  have bk : ∀ s, Backs [.own .sto, .d (.int top), s] [0] [.sto] := fun s => ⟨.sto, .sto, [], rfl, rfl, .inl rfl, rfl⟩
  have ret : ∀ (s : Slot) (x : DL.D) (q : Rat), x = qD q → Sz 41 q → ∃ r' os, (Res.d x).le r' ∧ Backs [.own .sto, .d (.int top), s] [0] os ∧ Post r' os := fun s x q e hq => ⟨_, _, rfl, bk s, by rw [e]; exact post q hq⟩
  have one : Bt 41 1 := bt_of (by decide) (by decide)
  have bt : Bt 41 top := bt_of (by omega) (by omega)
  refine wb_cons (ws_set 2 (we_takeI c_l_take 0 0 fun k hk => ?_))
  refine wb_cut (fun Γ => Γ = [.own .sto, .d (.int top), .d (.int (k : Int))]) (ws_ifE (et_eq (ev_var 2) ev_int) (fun h => wb_one (ws_ret (we_of (ev_tup2 ev_int ev_int) (ret _ _ _ (qD_one 0) (fr_sz (bt_of (by decide) (by decide)) one (by decide)))))) (fun h => wb_nil rfl)) ?_
  rintro Γ rfl
  refine wb_cut (fun Γ => Γ = [.own .sto, .d (.int top), .d (.int (k : Int))]) (ws_ifE (et_eq (ev_var 2) ev_int) (fun h => ?_) (fun h => wb_nil rfl)) ?_
  · refine wb_one (ws_ret (we_tup (wa_cons (wk_e (we_pick c_l_pick 1 0 ?_)))))
    refine we_frz ?_
    refine wo_of (eo_lst (ea_cons (ek_d ev_int) (ea_cons (ek_d (ev_sub ev_int ev_int)) (ea_cons (ek_d (ev_var 1)) (ea_cons (ek_d (ev_sub ev_int (ev_var 1))) ea_nil))))) ?_
    refine ⟨_, rfl, rfl, _, rfl, by simp, by simp, ?_⟩
    have fin : ∀ (i : Int) jj q1, Bt 41 i → WA X n_l_ratio c [.own .sto, .d (.int top), .d (.int (k : Int))] [.Constant (.int 1) jj q1] (fun ks Γ' => ∃ xs, dats (.d (.int i) :: ks) = some xs ∧ xs.length ≤ 1000 ∧ ∃ r' os, (Res.d (.tup xs)).le r' ∧ Backs Γ' [0] os ∧ Post r' os) := fun i jj q1 hi => wa_cons (wk_e (we_of ev_int (wa_nil ⟨_, rfl, Nat.le_of_ble_eq_true rfl, ret _ _ _ (qD_one i) (fr_sz (hi.mono (by decide)) one (by decide))⟩)))
    intro y hy
    simp only [List.mem_cons, List.not_mem_nil, or_false] at hy
    rcases hy with rfl | rfl | rfl | rfl
    · exact fin _ _ _ one
    · exact fin _ _ _ (bt_of (by decide) (by decide))
    · exact fin _ _ _ bt
    · exact fin _ _ _ (bt_of (by omega) (by omega))
  rintro Γ rfl
  have tz : Bt 8000 top := bt.mono (by decide)
  refine wb_cut (fun Γ => Γ = [.own .sto, .d (.int top), .d (.int (k : Int))]) (ws_ifE (et_eq (ev_var 2) ev_int) (fun h => ?_) (fun h => wb_nil rfl)) ?_
  · refine wb_one (ws_ret (we_call2 c_l_frac 2 (we_pick c_l_pick 1 0 ?_)))
    refine we_frz ?_
    refine wo_of (eo_lst (ea_cons (ek_d ev_int) (ea_cons (ek_d (ev_sub ev_int ev_int)) (ea_cons (ek_d (ev_var 1)) (ea_cons (ek_d (ev_sub ev_int (ev_var 1))) ea_nil))))) ?_
    refine ⟨_, rfl, rfl, _, rfl, by simp, by simp, ?_⟩
    have fin : ∀ (i : Int) q1, Bt 41 i → WE X n_l_ratio c [.own .sto, .d (.int top), .d (.int (k : Int))] (.Name "_law_top" q1) (fun y Γ2 => S_l_frac [.d (.int i), .d y] fun r os => ∃ z, r.data = some z ∧ ∃ r' os, (Res.d z).le r' ∧ Backs Γ2 [0] os ∧ Post r' os) := fun i q1 hi => we_of (ev_var 1) ⟨_, _, rfl, hi.mono (by decide), tz, _, rfl, ret _ _ _ rfl (fr_sz (hi.mono (by decide)) bt (by omega))⟩
    intro y hy
    simp only [List.mem_cons, List.not_mem_nil, or_false] at hy
    rcases hy with rfl | rfl | rfl | rfl
    · exact fin _ _ one
    · exact fin _ _ (bt_of (by decide) (by decide))
    · exact fin _ _ bt
    · exact fin _ _ (bt_of (by omega) (by omega))
  rintro Γ rfl
  have cm : CMul 2 top := .inl ⟨by decide, by decide⟩
  have b2 : Bt 8000 (((2 * top + 1).toNat : Nat) : Int) := (show Bt 42 _ from bt_of (by omega) (by omega)).mono (by decide)
  have e2 : (((2 * top + 1).toNat : Nat) : Int) = 2 * top + 1 := Int.toNat_of_nonneg (by omega)
  refine wb_cut (fun Γ => Γ = [.own .sto, .d (.int top), .d (.int (k : Int))]) (ws_ifE (et_eq (ev_var 2) ev_int) (fun h => wb_one (ws_ret (we_tup (wa_cons (wk_e (we_subR (i := top) (we_take c_l_take 0 0 (we_of (ev_add (ev_mul64 ev_int (ev_var 1) cm) ev_int) ⟨rfl, (2 * top + 1).toNat, by rw [e2], by omega, b2, fun m hm => ⟨rfl, _, rfl, wa_cons (wk_e (we_of ev_int (wa_nil ⟨_, rfl, Nat.le_of_ble_eq_true rfl, ret _ _ _ (qD_one _) (fr_sz ((show Bt 41 _ from bt_of (by omega) (by omega)).mono (by decide)) one (by decide))⟩)))⟩⟩)) (ev_var 1))))))) (fun h => wb_nil rfl)) ?_
  rintro Γ rfl
  refine wb_one (ws_ret (we_call2 c_l_frac 2 (we_subR (i := top) (we_take c_l_take 0 0 (we_of (ev_add (ev_mul64 ev_int (ev_var 1) cm) ev_int) ⟨rfl, (2 * top + 1).toNat, by rw [e2], by omega, b2, fun m hm => ⟨rfl, _, rfl, we_addL ev_int (we_take c_l_take 0 0 (we_of (ev_var 1) ⟨rfl, top.toNat, by rw [Int.toNat_of_nonneg (by omega)], by omega, by rw [Int.toNat_of_nonneg (by omega)]; exact tz, fun l hl => ⟨_, rfl, _, _, rfl, ?_, ?_, _, rfl, ret _ _ _ rfl (fr_sz ?_ ?_ ?_)⟩⟩))⟩⟩)) (ev_var 1))))
  · exact (show Bt 42 _ from bt_of (by omega) (by omega)).mono (by decide)
  · exact (show Bt 42 _ from bt_of (by omega) (by omega)).mono (by decide)
  · exact (show Bt 41 _ from bt_of (by omega) (by omega)).mono (by decide)
  · exact bt_of (by omega) (by omega)
  · omega


/-! _law_below -/
abbrev s_l_below : Stmt := top 35
abbrev n_l_below : Nm := { N := ["_law_a", "_law_b"], V := [0, 1], as := [0, 1], GN := [], k := 0, oi := [], lc := [0, 1], sc := none }
theorem sc_l_below : FnScope n_l_below.N ["_law_a", "_law_b"] (defScope s_l_below) := ⟨rfl, rfl, rfl, by decide +kernel, rfl, by decide +kernel, by decide +kernel⟩
theorem sb_l_below : ScOk (defScope s_l_below) n_l_below := scOk_of (by decide +kernel)
abbrev S_l_below : Sg := ST_below
theorem bd_l_below {X : Cx} {c : Cc}  : ∀ ps Post, S_l_below ps Post → WB X n_l_below c (entry n_l_below.N ps) (defBody s_l_below) (fnD n_l_below.oi Post) := by
  rintro ps Post ⟨a, b, j, k, rfl, ha, hb, hjk, post⟩
  show WB X n_l_below c [.w (qD a), .w (qD b)] _ _
  have i0 : ∀ q : Rat, (qD q).at 0 = some (.int q.num) := fun _ => rfl
  have i1 : ∀ q : Rat, (qD q).at 1 = some (.int (q.den : Int)) := fun _ => rfl
  refine wb_one (ws_ret (we_of (ev_lt (ev_mul (ev_ix (ek_s 0) ev_int (i0 a)) (ev_ix (ek_s 1) ev_int (i1 b)) (ha.n.cm hb.d (by omega))) (ev_mul (ev_ix (ek_s 1) ev_int (i0 b)) (ev_ix (ek_s 0) ev_int (i1 a)) (hb.n.cm ha.d (by omega)))) ⟨_, [], rfl, rfl, ?_⟩))
  have e : decide (a.num * (b.den : Int) < b.num * (a.den : Int)) = decide (a < b) := decide_eq_decide.mpr lt_num.symm
  rw [e]; exact post


/-! _law_wide_span -/
abbrev s_l_wide_span : Stmt := top 47
abbrev n_l_wide_span : Nm := { N := ["_law_store_here", "_law_lo", "_law_hi"], V := [0, 1, 2], as := [0, 1, 2], GN := ["_law_ratio", "_law_below", "_law_pick"], k := 4, oi := [0], lc := [0, 1, 2], sc := none }
theorem sc_l_wide_span : FnScope n_l_wide_span.N ["_law_store_here"] (defScope s_l_wide_span) := ⟨rfl, rfl, rfl, by decide +kernel, rfl, by decide +kernel, by decide +kernel⟩
theorem sb_l_wide_span : ScOk (defScope s_l_wide_span) n_l_wide_span := scOk_of (by decide +kernel)
abbrev S_l_wide_span : Sg := ST_widespan
theorem bd_l_wide_span {X : Cx} {c : Cc} (c_l_ratio : CalF X n_l_wide_span.k "_law_ratio" S_l_ratio) (c_l_below : CalF X n_l_wide_span.k "_law_below" S_l_below) (c_l_pick : CalF X n_l_wide_span.k "_law_pick" S_l_pick) : ∀ ps Post, S_l_wide_span ps Post → WB X n_l_wide_span c (entry n_l_wide_span.N ps) (defBody s_l_wide_span) (fnD n_l_wide_span.oi Post) := by
  rintro ps Post ⟨rfl, post⟩
  show WB X n_l_wide_span c [.own .sto, .no, .no] _ _
  refine wb_cons (ws_set 1 (we_ratio c_l_ratio 0 0 (ev_sub (ev_pow ev_int ev_int ⟨by decide, by decide, by decide⟩) ev_int) (by decide) (by decide) fun a ha => ?_))
  refine wb_cons (ws_set 2 (we_ratio c_l_ratio 0 0 (ev_sub (ev_pow ev_int ev_int ⟨by decide, by decide, by decide⟩) ev_int) (by decide) (by decide) fun b hb => ?_))
  refine wb_cut (fun Γ => ∃ x y : Rat, Γ = [.own .sto, .d (qD x), .d (qD y)] ∧ ¬ y < x ∧ Sz 41 x ∧ Sz 41 y) (ws_ifE (et_val (ev_call2 c_l_below 1 (ek_s 2) (ek_s 1) fun _ z => ⟨b, a, 41, 41, rfl, hb, ha, by decide, z⟩)) (fun h => wb_one (ws_par 1 2 (wa_of (ea_cons (ek_d (ev_var 2)) (ea_cons (ek_d (ev_var 1)) ea_nil)) ⟨_, _, rfl, b, a, rfl, ?_, hb, ha⟩))) (fun h => wb_nil ⟨a, b, rfl, of_decide_eq_false h, ha, hb⟩)) ?_
  · have := of_decide_eq_true h
    grind
  rintro Γ ⟨x, y, rfl, hxy, hx, hy⟩
  refine wb_one (ws_ret (we_pick c_l_pick 2 0 (we_frz (wo_of (eo_lst (ea_cons (ek_d (ev_tup (ea_cons (ek_d (ev_var 1)) (ea_cons (ek_d (ev_var 2)) ea_nil)))) (ea_cons (ek_d (ev_tup (ea_cons (ek_d (ev_var 1)) (ea_cons (ek_d ev_non) ea_nil)))) (ea_cons (ek_d (ev_tup (ea_cons (ek_d ev_non) (ea_cons (ek_d (ev_var 2)) ea_nil)))) (ea_cons (ek_d (ev_tup (ea_cons (ek_d ev_non) (ea_cons (ek_d ev_non) ea_nil)))) ea_nil))))) ⟨_, rfl, rfl, _, rfl, by simp, by simp, fun v hv => ?_⟩))))
  have bk : ∀ {G : SL}, Backs (.own .sto :: G) [0] [.sto] := fun {G} => ⟨.sto, .sto, [], rfl, rfl, .inl rfl, rfl⟩
  have z0 : SzO 41 none := fun q h => (by cases h)
  have z1 : ∀ {q : Rat}, Sz 41 q → SzO 41 (some q) := fun h q e => (by cases e; exact h)
  simp only [List.mem_cons, List.not_mem_nil, or_false] at hv
  rcases hv with rfl | rfl | rfl | rfl
  · exact ⟨_, _, rfl, bk, post (some x, some y) (fun a b h1 h2 => by cases h1; cases h2; exact hxy) ⟨z1 hx, z1 hy⟩⟩
  · exact ⟨_, _, rfl, bk, post (some x, none) (fun a b _ h => (by cases h)) ⟨z1 hx, z0⟩⟩
  · exact ⟨_, _, rfl, bk, post (none, some y) (fun a b h => (by cases h)) ⟨z0, z1 hy⟩⟩
  · exact ⟨_, _, rfl, bk, post (none, none) (fun a b h => (by cases h)) ⟨z0, z0⟩⟩


/-! _law_part -/
abbrev s_l_part : Stmt := top 38
abbrev n_l_part : Nm := { N := ["_law_store_here", "_law_sort"], V := [0, 1], as := [0, 1], GN := ["_law_take", "_law_pick", "_law_frac"], k := 3, oi := [0], lc := [0, 1], sc := none }
theorem sc_l_part : FnScope n_l_part.N ["_law_store_here"] (defScope s_l_part) := ⟨rfl, rfl, rfl, by decide +kernel, rfl, by decide +kernel, by decide +kernel⟩
theorem sb_l_part : ScOk (defScope s_l_part) n_l_part := scOk_of (by decide +kernel)
abbrev S_l_part : Sg := ST_draw PPart
theorem bd_l_part {X : Cx} {c : Cc} (c_l_take : CalF X n_l_part.k "_law_take" S_l_take) (c_l_pick : CalF X n_l_part.k "_law_pick" S_l_pick) (c_l_frac : CalF X n_l_part.k "_law_frac" S_l_frac) : ∀ ps Post, S_l_part ps Post → WB X n_l_part c (entry n_l_part.N ps) (defBody s_l_part) (fnD n_l_part.oi Post) := by
  rintro ps Post ⟨rfl, post⟩
  show WB X n_l_part c [.own .sto, .no] _ _
  have ret : ∀ (s : Slot) (q : Rat), Sd 60 24 q → ∃ r' os, (Res.d (qD q)).le r' ∧ Backs [.own .sto, s] [0] os ∧ Post r' os := fun s q hq => ⟨_, _, rfl, ⟨.sto, .sto, [], rfl, rfl, .inl rfl, rfl⟩, post q hq⟩
  refine wb_cons (ws_set 1 (we_takeI c_l_take 0 0 fun k hk => ?_))
  refine wb_cut (fun Γ => Γ = [.own .sto, .d (.int (k : Int))]) (ws_ifE (et_lt (ev_var 1) ev_int) (fun h => ?_) (fun h => wb_nil rfl)) ?_
  · refine wb_one (ws_ret (we_pick c_l_pick 1 0 ?_))
    refine we_frz ?_
    refine wo_of (eo_lst (ea_cons (ek_d (ev_q ev_int ev_int)) (ea_cons (ek_d (ev_q ev_int ev_int)) (ea_cons (ek_d (ev_q ev_int ev_int)) (ea_cons (ek_d (ev_q (ev_neg ev_int) ev_int)) (ea_cons (ek_d (ev_q ev_int ev_int)) (ea_cons (ek_d (ev_q (ev_neg ev_int) ev_int)) ea_nil))))))) ?_
    refine ⟨_, rfl, rfl, _, rfl, by simp, by simp, ?_⟩
    intro y hy
    simp only [List.mem_cons, List.not_mem_nil, or_false] at hy
    rcases hy with rfl | rfl | rfl | rfl | rfl | rfl <;> exact ret _ _ ⟨fr_dvd (by decide) (by decide), (fr_sz (k := 3) (bt_of (by decide) (by decide)) (bt_of (by decide) (by decide)) (by decide)).n⟩
  rintro Γ rfl
  refine wb_one (ws_ret (we_call2 c_l_frac 2 (we_subR (we_takeI (m := 49) c_l_take 0 0 fun m hm => ⟨rfl, _, rfl, ?_⟩) ev_int)))
  have dvd : ∀ l : Nat, l < 6 → (1 + (l : Int)).natAbs ∣ 60 := by decide
  refine we_addL ev_int (we_takeI (m := 6) c_l_take 0 0 fun l hl => ⟨_, rfl, _, _, rfl, ?_, ?_, _, rfl, ret _ _ ⟨fr_dvd (by omega) (dvd l hl), (fr_sz (k := 3) ?_ ?_ ?_).n⟩⟩)
  · exact (show Bt 42 _ from bt_of (by omega) (by omega)).mono (by decide)
  · exact (show Bt 42 _ from bt_of (by omega) (by omega)).mono (by decide)
  · exact bt_of (by omega) (by omega)
  · exact bt_of (by omega) (by omega)
  · omega


/-! _law_stamps -/
abbrev s_l_stamps : Stmt := top 45
abbrev n_l_stamps : Nm := { N := ["_law_store_here", "_law_k"], V := [0], as := [0], GN := ["tuple", "range"], k := 4, oi := [0], lc := [], sc := some (defScope s_l_stamps) }
abbrev n_l_stamps_c1 : Nm := { N := ["_law_store_here", "_law_k"], V := [0, 1], as := [1], GN := ["_law_part"], k := 4, oi := [0] }
theorem sc_l_stamps : FnScope n_l_stamps.N ["_law_store_here"] (defScope s_l_stamps) := ⟨rfl, rfl, rfl, by decide +kernel, rfl, by decide +kernel, by decide +kernel⟩
theorem sb_l_stamps : ScOk (defScope s_l_stamps) n_l_stamps := scOk_of (by decide +kernel)
abbrev S_l_stamps : Sg := ST_stamps
theorem bd_l_stamps {X : Cx} {c : Cc} (b_tuple : Blt X "tuple" (.type "tuple")) (b_range : Blt X "range" (.type "range")) (c_l_part : CalF X n_l_stamps.k "_law_part" S_l_part) : ∀ ps Post, S_l_stamps ps Post → WB X n_l_stamps c (entry n_l_stamps.N ps) (defBody s_l_stamps) (fnD n_l_stamps.oi Post) := by
  rintro ps Post ⟨rfl, post⟩
  show WB X n_l_stamps c [.own .sto, .no] _ _
  refine wb_one (ws_ret (we_bty b_tuple dc_tuple 0 (wa_cons (wk_v (we_frz (wo_lcR1 (n' := n_l_stamps_c1) 1 (fun i acc => ∃ us : List Rat, acc = us.map qD ∧ us.length = i ∧ ∀ u ∈ us, Sz 6 u) (fun _ q => q = true) 4 ⟨⟨_, rfl, by decide +kernel⟩, by decide +kernel, rfl, rfl, rfl, rfl, rfl, rfl, rfl, (by intro o h; cases h)⟩ b_range 1 (we_of ev_int ⟨_, rfl, rfl, by decide, by decide, rfl⟩) (by decide) ⟨[], rfl, rfl, by simp⟩ (fun X' c' hb i hi => ⟨rfl, rfl⟩) (fun X' c' hb i acc hi _ hacc _ => ?_) (fun i acc _ h _ => (by cases h)) (fun out ho => ⟨_, rfl, wa_nil ⟨_, rfl, _, _, rfl, rfl, _, _, rfl, ⟨.sto, .sto, [], rfl, rfl, .inl rfl, rfl⟩, ?_⟩⟩)))))))
  · obtain ⟨us, rfl, u1, u2⟩ := hacc
    refine we_draw (n := n_l_stamps_c1) (c_l_part.blk hb) 0 0 fun q hq => ⟨rfl, us ++ [q], by rw [List.map_append]; rfl, by rw [List.length_append, u1]; rfl, fun x hx => ?_⟩
    rcases List.mem_append.mp hx with h | h
    · exact u2 x h
    · have : x = q := by simpa using h
      rw [this]; exact Sd.sz hq (by decide) (by decide) (by decide)
  · obtain ⟨us, rfl, u1, u2⟩ := ho
    obtain ⟨a, b, c', d, rfl⟩ := list4 u1
    exact post (a, b, c', d) ⟨u2 _ (by simp), u2 _ (by simp), u2 _ (by simp), u2 _ (by simp)⟩


/-! _law_span -/
abbrev s_l_span : Stmt := top 40
abbrev n_l_span : Nm := { N := ["_law_store_here", "_law_reach", "_law_sort", "_law_down", "_law_more"], V := [0, 1, 2, 3, 4], as := [0, 1, 2, 3, 4], GN := ["_law_take", "_law_frac"], k := 2, oi := [0], lc := [0, 1, 2, 3, 4], sc := none }
theorem sc_l_span : FnScope n_l_span.N ["_law_store_here", "_law_reach"] (defScope s_l_span) := ⟨rfl, rfl, rfl, by decide +kernel, rfl, by decide +kernel, by decide +kernel⟩
theorem sb_l_span : ScOk (defScope s_l_span) n_l_span := scOk_of (by decide +kernel)
abbrev S_l_span : Sg := ST_lspan
theorem bd_l_span {X : Cx} {c : Cc} (c_l_take : CalF X n_l_span.k "_law_take" S_l_take) (c_l_frac : CalF X n_l_span.k "_law_frac" S_l_frac) : ∀ ps Post, S_l_span ps Post → WB X n_l_span c (entry n_l_span.N ps) (defBody s_l_span) (fnD n_l_span.oi Post) := by
  rintro ps Post ⟨r, rfl, hr, post⟩
  show WB X n_l_span c [.own .sto, .d (.int (r : Int)), .no, .no, .no] _ _
  have ret : ∀ {G : SL} (s : Spn), OrdS s → SzS 24 s → ∃ r' os, (Res.d (sD s)).le r' ∧ Backs (.own .sto :: G) [0] os ∧ Post r' os := fun s h1 h2 => ⟨_, _, rfl, ⟨.sto, .sto, [], rfl, rfl, .inl rfl, rfl⟩, post s h1 h2⟩
  refine wb_cons (ws_set 2 (we_takeI (m := 9) c_l_take 0 0 fun k hk => ?_))
  have e1 : (2 : Int) * (r : Int) + 1 = ((2 * r + 1 : Nat) : Int) := by omega
  have br : Bt 30 (r : Int) := bt_of (by omega) (by omega)
  refine wb_cons (ws_set 3 (we_subR (we_take c_l_take 0 0 (we_of (ev_is (ev_add (ev_mul ev_int (ev_var 1) ((show Bt 3 2 from bt_of (by decide) (by decide)).cm br (by decide))) ev_int) (congrArg DL.D.int e1)) ⟨rfl, _, rfl, by omega, bt64 (by omega), fun d hd => ⟨rfl, _, rfl, ?_⟩⟩)) (ev_var 1)))
  have hd1 : -1000001 ≤ (d : Int) - (r : Int) := by omega
  have hd2 : (d : Int) - (r : Int) ≤ 1000001 := by omega
  show WB X n_l_span c [.own .sto, .d (.int (r : Int)), .d (.int (k : Int)), .d (.int ((d : Int) - (r : Int))), .no] _ _
  generalize (d : Int) - (r : Int) = dn at hd1 hd2
  refine wb_cut (fun Γ => ∃ mo : Nat, Γ = [.own .sto, .d (.int (r : Int)), .d (.int (k : Int)), .d (.int dn), .d (.int (mo : Int))] ∧ mo ≤ 1000001) (ws_set 4 (we_if (wt_of (et_lt (ev_var 2) ev_int) ⟨fun h => we_of ev_int ⟨0, rfl, by omega⟩, fun h => we_take c_l_take 0 0 (we_of (ev_is (ev_add (ev_var 1) ev_int) (congrArg DL.D.int (show (r : Int) + 1 = ((r + 1 : Nat) : Int) by omega))) ⟨rfl, _, rfl, by omega, bt64 (by omega), fun mo hmo => ⟨mo, rfl, by omega⟩⟩)⟩))) ?_
  rintro Γ ⟨mo, rfl, hmo⟩
  have zf : ∀ i : Int, -3000000 ≤ i → i ≤ 3000000 → Sz 24 (fr i 2) := fun i h1 h2 => fr_sz ((show Bt 24 i from bt_of (by omega) (by omega)).mono (by decide)) (bt_of (by decide) (by decide)) (by decide)
  have bf : ∀ i : Int, -3000000 ≤ i → i ≤ 3000000 → Bt 80000 i := fun i h1 h2 => (show Bt 24 i from bt_of (by omega) (by omega)).mono (by decide)
  have b2 : Bt 8000 2 := (show Bt 24 2 from bt_of (by omega) (by omega)).mono (by decide)
  have o0 : ∀ {o : Option Rat}, OrdS (none, o) := fun a b h => (by cases h)
  have o1 : ∀ {o : Option Rat}, OrdS (o, none) := fun a b _ h => (by cases h)
  have z0 : SzO 24 none := fun q h => (by cases h)
  have z1 : ∀ {q : Rat}, Sz 24 q → SzO 24 (some q) := fun h q e => (by cases e; exact h)
  refine wb_cut (fun Γ => Γ = [.own .sto, .d (.int (r : Int)), .d (.int (k : Int)), .d (.int dn), .d (.int (mo : Int))]) (ws_ifE (et_eq (ev_var 2) ev_int) (fun h => wb_one (ws_ret (we_of (ev_tup (ea_cons (ek_d ev_non) (ea_cons (ek_d ev_non) ea_nil))) (ret (none, none) o0 ⟨z0, z0⟩)))) (fun h => wb_nil rfl)) ?_
  rintro Γ rfl
  refine wb_cut (fun Γ => Γ = [.own .sto, .d (.int (r : Int)), .d (.int (k : Int)), .d (.int dn), .d (.int (mo : Int))]) (ws_ifE (et_eq (ev_var 2) ev_int) (fun h => wb_one (ws_ret (we_of (ev_tup (ea_cons (ek_d ev_non) (ea_cons (ek_d (ev_call2 c_l_frac 1 (ek_d (ev_var 3)) (ek_d ev_int) fun _ z => ⟨_, _, rfl, bf dn (by omega) (by omega), b2, z⟩)) ea_nil))) (ret (none, some (fr dn 2)) o0 ⟨z0, z1 (zf dn (by omega) (by omega))⟩)))) (fun h => wb_nil rfl)) ?_
  rintro Γ rfl
  refine wb_cut (fun Γ => Γ = [.own .sto, .d (.int (r : Int)), .d (.int (k : Int)), .d (.int dn), .d (.int (mo : Int))]) (ws_ifE (et_eq (ev_var 2) ev_int) (fun h => wb_one (ws_ret (we_of (ev_tup (ea_cons (ek_d (ev_call2 c_l_frac 1 (ek_d (ev_var 3)) (ek_d ev_int) fun _ z => ⟨_, _, rfl, bf dn (by omega) (by omega), b2, z⟩)) (ea_cons (ek_d ev_non) ea_nil))) (ret (some (fr dn 2), none) o1 ⟨z1 (zf dn (by omega) (by omega)), z0⟩)))) (fun h => wb_nil rfl)) ?_
  rintro Γ rfl
  exact wb_one (ws_ret (we_of (ev_tup (ea_cons (ek_d (ev_call2 c_l_frac 1 (ek_d (ev_var 3)) (ek_d ev_int) fun _ z => ⟨_, _, rfl, bf dn (by omega) (by omega), b2, z⟩)) (ea_cons (ek_d (ev_call2 c_l_frac 1 (ek_d (ev_add (ev_var 3) (ev_var 4))) (ek_d ev_int) fun _ z => ⟨_, _, rfl, bf (dn + (mo : Int)) (by omega) (by omega), b2, z⟩)) ea_nil))) (ret (some (fr dn 2), some (fr (dn + (mo : Int)) 2)) (fun a b h1 h2 => by cases h1; cases h2; exact fr_le (by omega) (by decide)) ⟨z1 (zf dn (by omega) (by omega)), z1 (zf _ (by omega) (by omega))⟩)))


/-! _law_minus -/
abbrev s_l_minus : Stmt := top 33
abbrev n_l_minus : Nm := { N := ["_law_a", "_law_b"], V := [0, 1], as := [0, 1], GN := ["_law_frac"], k := 1, oi := [], lc := [0, 1], sc := none }
theorem sc_l_minus : FnScope n_l_minus.N ["_law_a", "_law_b"] (defScope s_l_minus) := ⟨rfl, rfl, rfl, by decide +kernel, rfl, by decide +kernel, by decide +kernel⟩
theorem sb_l_minus : ScOk (defScope s_l_minus) n_l_minus := scOk_of (by decide +kernel)
abbrev S_l_minus : Sg := ST_2 (· - ·)
theorem bd_l_minus {X : Cx} {c : Cc} (c_l_frac : CalF X n_l_minus.k "_law_frac" S_l_frac) : ∀ ps Post, S_l_minus ps Post → WB X n_l_minus c (entry n_l_minus.N ps) (defBody s_l_minus) (fnD n_l_minus.oi Post) := by
  rintro ps Post ⟨a, b, j, k, rfl, ha, hb, hjk, post⟩
  show WB X n_l_minus c [.w (qD a), .w (qD b)] _ _
  have m1 : ∀ {u v : Int}, Bt (8 * j) u → Bt (8 * k) v → CMulW u v := fun h h' => h.cm h' (by omega)
  have m2 : ∀ {u v : Int}, Bt (8 * k) u → Bt (8 * j) v → CMulW u v := fun h h' => h.cm h' (by omega)
  have i0 : ∀ q : Rat, (qD q).at 0 = some (.int q.num) := fun _ => rfl
  have i1 : ∀ q : Rat, (qD q).at 1 = some (.int (q.den : Int)) := fun _ => rfl
  refine wb_one (ws_ret (we_of (ev_call2 c_l_frac 0 (ek_d (ev_sub (ev_mul (ev_ix (ek_s 0) ev_int (i0 a)) (ev_ix (ek_s 1) ev_int (i1 b)) (m1 ha.n (hb.d.mono (by omega)))) (ev_mul (ev_ix (ek_s 1) ev_int (i0 b)) (ev_ix (ek_s 0) ev_int (i1 a)) (m2 hb.n (ha.d.mono (by omega)))))) (ek_d (ev_mul (ev_ix (ek_s 0) ev_int (i1 a)) (ev_ix (ek_s 1) ev_int (i1 b)) (m1 (ha.d.mono (by omega)) (hb.d.mono (by omega))))) fun Q q => ⟨_, _, rfl, ?_, ?_, ?_⟩) ⟨_, [], rfl, rfl, post⟩))
  · exact (((ha.n.mul hb.d).mono (show 8 * j + k ≤ 8 * (j + k) by omega)).sub ((hb.n.mul ha.d).mono (by omega))).mono (by omega)
  · exact (ha.d.mul hb.d).mono (by omega)
  · rw [fr_sub]; exact q


/-! _law_plus -/
abbrev s_l_plus : Stmt := top 32
abbrev n_l_plus : Nm := { N := ["_law_a", "_law_b"], V := [0, 1], as := [0, 1], GN := ["_law_frac"], k := 1, oi := [], lc := [0, 1], sc := none }
theorem sc_l_plus : FnScope n_l_plus.N ["_law_a", "_law_b"] (defScope s_l_plus) := ⟨rfl, rfl, rfl, by decide +kernel, rfl, by decide +kernel, by decide +kernel⟩
theorem sb_l_plus : ScOk (defScope s_l_plus) n_l_plus := scOk_of (by decide +kernel)
abbrev S_l_plus : Sg := ST_2 (· + ·)
theorem bd_l_plus {X : Cx} {c : Cc} (c_l_frac : CalF X n_l_plus.k "_law_frac" S_l_frac) : ∀ ps Post, S_l_plus ps Post → WB X n_l_plus c (entry n_l_plus.N ps) (defBody s_l_plus) (fnD n_l_plus.oi Post) := by
  rintro ps Post ⟨a, b, j, k, rfl, ha, hb, hjk, post⟩
  show WB X n_l_plus c [.w (qD a), .w (qD b)] _ _
  have m1 : ∀ {u v : Int}, Bt (8 * j) u → Bt (8 * k) v → CMulW u v := fun h h' => h.cm h' (by omega)
  have m2 : ∀ {u v : Int}, Bt (8 * k) u → Bt (8 * j) v → CMulW u v := fun h h' => h.cm h' (by omega)
  have i0 : ∀ q : Rat, (qD q).at 0 = some (.int q.num) := fun _ => rfl
  have i1 : ∀ q : Rat, (qD q).at 1 = some (.int (q.den : Int)) := fun _ => rfl
  refine wb_one (ws_ret (we_of (ev_call2 c_l_frac 0 (ek_d (ev_add (ev_mul (ev_ix (ek_s 0) ev_int (i0 a)) (ev_ix (ek_s 1) ev_int (i1 b)) (m1 ha.n (hb.d.mono (by omega)))) (ev_mul (ev_ix (ek_s 1) ev_int (i0 b)) (ev_ix (ek_s 0) ev_int (i1 a)) (m2 hb.n (ha.d.mono (by omega)))))) (ek_d (ev_mul (ev_ix (ek_s 0) ev_int (i1 a)) (ev_ix (ek_s 1) ev_int (i1 b)) (m1 (ha.d.mono (by omega)) (hb.d.mono (by omega))))) fun Q q => ⟨_, _, rfl, ?_, ?_, ?_⟩) ⟨_, [], rfl, rfl, post⟩))
  · exact (((ha.n.mul hb.d).mono (show 8 * j + k ≤ 8 * (j + k) by omega)).add ((hb.n.mul ha.d).mono (by omega))).mono (by omega)
  · exact (ha.d.mul hb.d).mono (by omega)
  · rw [fr_add]; exact q


/-! _law_spare -/
abbrev s_l_spare : Stmt := top 39
abbrev n_l_spare : Nm := { N := ["_law_store_here"], V := [0], as := [0], GN := ["_law_take", "_law_frac"], k := 2, oi := [0], lc := [0], sc := none }
theorem sc_l_spare : FnScope n_l_spare.N ["_law_store_here"] (defScope s_l_spare) := ⟨rfl, rfl, rfl, by decide +kernel, rfl, by decide +kernel, by decide +kernel⟩
theorem sb_l_spare : ScOk (defScope s_l_spare) n_l_spare := scOk_of (by decide +kernel)
abbrev S_l_spare : Sg := ST_draw PSpare
theorem bd_l_spare {X : Cx} {c : Cc} (c_l_take : CalF X n_l_spare.k "_law_take" S_l_take) (c_l_frac : CalF X n_l_spare.k "_law_frac" S_l_frac) : ∀ ps Post, S_l_spare ps Post → WB X n_l_spare c (entry n_l_spare.N ps) (defBody s_l_spare) (fnD n_l_spare.oi Post) := by
  rintro ps Post ⟨rfl, post⟩
  show WB X n_l_spare c [.own .sto] _ _
  have ret : ∀ (q : Rat), PSpare q → ∃ r' os, (Res.d (qD q)).le r' ∧ Backs [.own .sto] [0] os ∧ Post r' os := fun q hq => ⟨_, _, rfl, ⟨.sto, .sto, [], rfl, rfl, .inl rfl, rfl⟩, post q hq⟩
  refine wb_cut (fun Γ => Γ = [.own .sto]) (ws_if (wt_cmp dop_eqI (nomark _) (wk_e (we_takeI (m := 4) c_l_take 0 0 fun j hj => wk_e (we_of ev_int ⟨_, _, rfl, rfl, _, _, rfl, rfl, trivial, _, rfl, fun h => wb_one (ws_ret (we_of (ev_q ev_int ev_int) (ret _ ⟨⟨by decide +kernel, (fr_sz (k := 3) (bt_of (by decide) (by decide)) (bt_of (by decide) (by decide)) (by decide)).n⟩, fr_ge0 (by decide) (by decide)⟩))), fun h => wb_nil rfl⟩))))) ?_
  rintro Γ rfl
  have dvd : ∀ l : Nat, l < 6 → (1 + (l : Int)).natAbs ∣ 60 := by decide
  refine wb_one (ws_ret (we_call2 c_l_frac 1 (we_takeI (m := 25) c_l_take 0 0 fun m hm => ?_)))
  refine we_addL ev_int (we_takeI (m := 6) c_l_take 0 0 fun l hl => ⟨_, rfl, _, _, rfl, ?_, ?_, _, rfl, ret _ ⟨⟨fr_dvd (by omega) (dvd l hl), (fr_sz (k := 3) ?_ ?_ ?_).n⟩, fr_ge0 (by omega) (by omega)⟩⟩)
  · exact (show Bt 42 _ from bt_of (by omega) (by omega)).mono (by decide)
  · exact (show Bt 42 _ from bt_of (by omega) (by omega)).mono (by decide)
  · exact bt_of (by omega) (by omega)
  · exact bt_of (by omega) (by omega)
  · omega


/-! _law_round -/
abbrev s_l_round : Stmt := top 46
abbrev n_l_round : Nm := { N := ["_law_store_here", "_law_x", "_law_span_here", "_law_by", "_law_one"], V := [0, 1, 2, 3], as := [0, 1, 2, 3], GN := ["_law_pick", "_law_minus", "_law_spare", "_law_plus", "_law_part", "tuple"], k := 4, oi := [0], lc := [0, 1, 2], sc := some (defScope s_l_round) }
abbrev n_l_round_c1 : Nm := { N := ["_law_store_here", "_law_x", "_law_span_here", "_law_by", "_law_one"], V := [3, 4], as := [4], GN := ["_law_plus"], k := 4, oi := [0] }
theorem sc_l_round : FnScope n_l_round.N ["_law_store_here", "_law_x"] (defScope s_l_round) := ⟨rfl, rfl, rfl, by decide +kernel, rfl, by decide +kernel, by decide +kernel⟩
theorem sb_l_round : ScOk (defScope s_l_round) n_l_round := scOk_of (by decide +kernel)
abbrev S_l_round : Sg := ST_round
theorem bd_l_round {X : Cx} {c : Cc} (c_l_pick : CalF X n_l_round.k "_law_pick" S_l_pick) (c_l_minus : CalF X n_l_round.k "_law_minus" S_l_minus) (c_l_spare : CalF X n_l_round.k "_law_spare" S_l_spare) (c_l_plus : CalF X n_l_round.k "_law_plus" S_l_plus) (c_l_part : CalF X n_l_round.k "_law_part" S_l_part) (b_tuple : Blt X "tuple" (.type "tuple")) : ∀ ps Post, S_l_round ps Post → WB X n_l_round c (entry n_l_round.N ps) (defBody s_l_round) (fnD n_l_round.oi Post) := by
  rintro ps Post ⟨q, k, rfl, hq, hk, post⟩
  show WB X n_l_round c [.own .sto, .w (qD q), .no, .no, .no] _ _
  have s60 : ∀ {a : Rat}, Sd 60 24 a → Sz 6 a := fun h => h.sz (by decide) (by decide) (by decide)
  refine wb_cut (fun Γ => ∃ lo : Option Rat, Γ = [.own .sto, .w (qD q), .own (.lst [oD lo]), .no, .no] ∧ ∀ a, lo = some a → ¬ q < a ∧ Sz (k + 7) a) (ws_setO 2 (wo_lst (wa_cons (wk_e (we_pick c_l_pick 0 0 (we_frz (wo_lst (wa_cons (wk_e (we_of ev_non (wa_cons (wk_e (we_of (ev_fix 1) (wa_cons (wk_e (we_call2v c_l_minus 1 (we_of (ev_fix 1) (we_draw c_l_spare 2 0 fun d hd => ⟨_, _, k, 6, rfl, hq, s60 hd.1, by omega, _, rfl, wa_nil ⟨[.non, qD q, qD (q - d)], rfl, Nat.le_of_ble_eq_true rfl, _, rfl, rfl, _, rfl, by simp, by simp, fun y hy => wa_nil ⟨[y], rfl, Nat.le_of_ble_eq_true rfl, ?_⟩⟩⟩)))))))))))))))))) ?_
  · simp only [List.mem_cons, List.not_mem_nil, or_false] at hy
    rcases hy with rfl | rfl | rfl
    · exact ⟨none, rfl, fun a h => (by cases h)⟩
    · exact ⟨some q, rfl, fun a h => (by cases h; exact ⟨Rat.lt_irrefl, hq.mono (by omega)⟩)⟩
    · refine ⟨some (q - d), rfl, fun a h => ?_⟩
      cases h
      have := hd.2
      exact ⟨by grind, (hq.sub (s60 hd.1)).mono (by omega)⟩
  rintro Γ ⟨lo, rfl, hlo⟩
  refine wb_cut (fun Γ => ∃ hi : Option Rat, Γ = [.own .sto, .w (qD q), .own (.lst [oD lo, oD hi]), .no, .no] ∧ ∀ a, hi = some a → ¬ a < q ∧ Sz (k + 7) a) (ws_append 2 (we_pick c_l_pick 0 0 (we_frz (wo_lst (wa_cons (wk_e (we_of ev_non (wa_cons (wk_e (we_of (ev_fix 1) (wa_cons (wk_e (we_call2v c_l_plus 3 (we_of (ev_fix 1) (we_draw c_l_spare 2 0 fun d hd => ⟨_, _, k, 6, rfl, hq, s60 hd.1, by omega, _, rfl, wa_nil ⟨[.non, qD q, qD (q + d)], rfl, Nat.le_of_ble_eq_true rfl, _, rfl, rfl, _, rfl, by simp, by simp, fun y hy => ⟨_, rfl, by simp, ?_⟩⟩⟩))))))))))))))) ?_
  · simp only [List.mem_cons, List.not_mem_nil, or_false] at hy
    rcases hy with rfl | rfl | rfl
    · exact ⟨none, rfl, fun a h => (by cases h)⟩
    · exact ⟨some q, rfl, fun a h => (by cases h; exact ⟨Rat.lt_irrefl, hq.mono (by omega)⟩)⟩
    · refine ⟨some (q + d), rfl, fun a h => ?_⟩
      cases h
      have := hd.2
      exact ⟨by grind, (hq.add (s60 hd.1)).mono (by omega)⟩
  rintro Γ ⟨hi, rfl, hhi⟩
  refine wb_cut (fun Γ => ∃ b : Rat, Γ = [.own .sto, .w (qD q), .own (.lst [oD lo, oD hi]), .d (qD b), .no] ∧ Sz 6 b) (ws_set 3 (we_pick c_l_pick 0 0 (we_frz (wo_lst (wa_cons (wk_e (we_of (ev_q ev_int ev_int) (wa_cons (wk_e (we_of (ev_q ev_int ev_int) (wa_cons (wk_e (we_of (ev_q ev_int ev_int) (wa_cons (wk_e (we_of (ev_q ev_int ev_int) (wa_cons (wk_e (we_of (ev_q (ev_neg ev_int) ev_int) (wa_cons (wk_e (we_draw c_l_part 4 0 fun d hd => wa_nil ⟨[qD (fr 0 1), qD (fr 0 1), qD (fr 0 1), qD (fr 1 60), qD (fr (-1) 60), qD d], rfl, Nat.le_of_ble_eq_true rfl, _, rfl, rfl, _, rfl, by simp, by simp, fun y hy => ?_⟩)))))))))))))))))))))) ?_
  · have f6 : ∀ {i : Int} {j : Int}, -60 ≤ i → i ≤ 60 → 0 < j → j ≤ 60 → Sz 6 (fr i j) := fun h1 h2 h3 h4 => fr_sz ((show Bt 6 _ from bt_of (by omega) (by omega)).mono (by decide)) (bt_of (by omega) (by omega)) (by omega)
    simp only [List.mem_cons, List.not_mem_nil, or_false] at hy
    rcases hy with rfl | rfl | rfl | rfl | rfl | rfl
    · exact ⟨_, rfl, f6 (by decide) (by decide) (by decide) (by decide)⟩
    · exact ⟨_, rfl, f6 (by decide) (by decide) (by decide) (by decide)⟩
    · exact ⟨_, rfl, f6 (by decide) (by decide) (by decide) (by decide)⟩
    · exact ⟨_, rfl, f6 (by decide) (by decide) (by decide) (by decide)⟩
    · exact ⟨_, rfl, f6 (by decide) (by decide) (by decide) (by decide)⟩
    · exact ⟨_, rfl, s60 hd⟩
  rintro Γ ⟨b, rfl, hb⟩
  refine wb_one (ws_ret (we_bty b_tuple dc_tuple 5 (wa_cons (wk_v (we_frz (wo_lcL (n' := n_l_round_c1) 4 (fun i acc => acc = ([lo, hi].take i).map (fun o => oD (o.map (· + b)))) (fun _ _ q => q = true) ⟨⟨_, rfl, by decide +kernel⟩, by decide +kernel, rfl, rfl, rfl, rfl, rfl, rfl, rfl, (by intro o h; cases h)⟩ (ek_s 2) rfl (Nat.le_of_ble_eq_true rfl) rfl (fun X' c' hx i d _ => ⟨rfl, rfl⟩) (fun X' c' hx i d acc hd _ hacc _ => ?_) (fun i d acc _ h _ => (by cases h)) (fun out ho => ⟨_, rfl, wa_nil ⟨_, rfl, _, _, rfl, rfl, _, _, rfl, ⟨.sto, .sto, [], rfl, rfl, .inl rfl, rfl⟩, ?_⟩⟩)))))))
  · have hd' : ([lo, hi].map oD)[i]? = some d := hd
    rw [List.getElem?_map] at hd'
    obtain ⟨o, ho, rfl⟩ := Option.map_eq_some_iff.mp hd'
    have hm : o = lo ∨ o = hi := by simpa using List.mem_of_getElem? ho
    have so : ∀ a, o = some a → Sz (k + 7) a := fun a e => by
      rcases hm with rfl | rfl
      · exact (hlo a e).2
      · exact (hhi a e).2
    refine we_of (x := oD (o.map (· + b))) ?_ ⟨rfl, ?_⟩
    · cases o with
      | none => exact ev_if (et_isN (ek_s 4)) (fun _ => ev_non) (fun h => (by cases h))
      | some x => exact ev_if (et_isN (ek_s 4)) (fun h => (by cases h)) (fun _ => ev_call2 (n := n_l_round_c1) (c_l_plus.blk hx) 0 (ek_s 4) (ek_s 3) fun _ z => ⟨x, b, k + 7, 6, rfl, so x rfl, hb, by omega, z⟩)
    · rw [hacc, List.take_succ, ho, List.map_append]; rfl
  · have ho' : out = ([lo, hi].take 2).map (fun o => oD (o.map (· + b))) := ho
    rw [ho']
    refine post (lo.map (· + b), hi.map (· + b)) (fun u v h1 h2 => ?_) ⟨fun u h => ?_, fun u h => ?_⟩
    · obtain ⟨x, rfl, rfl⟩ := Option.map_eq_some_iff.mp h1
      obtain ⟨y, rfl, rfl⟩ := Option.map_eq_some_iff.mp h2
      have := (hlo x rfl).1
      have := (hhi y rfl).1
      grind
    · obtain ⟨x, rfl, rfl⟩ := Option.map_eq_some_iff.mp h
      exact ((hlo x rfl).2.add hb).mono (by omega)
    · obtain ⟨x, rfl, rfl⟩ := Option.map_eq_some_iff.mp h
      exact ((hhi x rfl).2.add hb).mono (by omega)


/-! _law_drawn -/
abbrev s_l_drawn : Stmt := top 48
abbrev n_l_drawn : Nm := { N := ["_law_store_here", "_law_sort", "_law_readings", "_law_f", "_law_there", "_law_home", "_law_k"], V := [0, 1, 2, 3, 4, 5], as := [0, 1, 2, 3, 4, 5], GN := ["_law_take", "tuple", "range", "_law_wide_span", "_law_stamps", "_law_span", "_law_part", "_law_minus", "_law_plus", "_law_round"], k := 5, oi := [0], lc := [1, 2, 3, 4, 5], sc := some (defScope s_l_drawn) }
abbrev n_l_drawn_c1 : Nm := { N := ["_law_store_here", "_law_sort", "_law_readings", "_law_f", "_law_there", "_law_home", "_law_k"], V := [0, 6], as := [6], GN := ["_law_ratio"], k := 5, oi := [0] }
abbrev n_l_drawn_c2 : Nm := { N := ["_law_store_here", "_law_sort", "_law_readings", "_law_f", "_law_there", "_law_home", "_law_k"], V := [0, 6], as := [6], GN := ["_law_take"], k := 5, oi := [0] }
theorem sc_l_drawn : FnScope n_l_drawn.N ["_law_store_here"] (defScope s_l_drawn) := ⟨rfl, rfl, rfl, by decide +kernel, rfl, by decide +kernel, by decide +kernel⟩
theorem sb_l_drawn : ScOk (defScope s_l_drawn) n_l_drawn := scOk_of (by decide +kernel)
abbrev S_l_drawn : Sg := ST_drawn
theorem bd_l_drawn {X : Cx} {c : Cc} (c_l_take : CalF X n_l_drawn.k "_law_take" S_l_take) (b_tuple : Blt X "tuple" (.type "tuple")) (b_range : Blt X "range" (.type "range")) (c_l_wide_span : CalF X n_l_drawn.k "_law_wide_span" S_l_wide_span) (c_l_stamps : CalF X n_l_drawn.k "_law_stamps" S_l_stamps) (c_l_span : CalF X n_l_drawn.k "_law_span" S_l_span) (c_l_part : CalF X n_l_drawn.k "_law_part" S_l_part) (c_l_minus : CalF X n_l_drawn.k "_law_minus" S_l_minus) (c_l_plus : CalF X n_l_drawn.k "_law_plus" S_l_plus) (c_l_round : CalF X n_l_drawn.k "_law_round" S_l_round) (c_l_ratio : CalF X n_l_drawn.k "_law_ratio" S_l_ratio) : ∀ ps Post, S_l_drawn ps Post → WB X n_l_drawn c (entry n_l_drawn.N ps) (defBody s_l_drawn) (fnD n_l_drawn.oi Post) := by
  rintro ps Post ⟨rfl, post⟩
  show WB X n_l_drawn c [.own .sto, .no, .no, .no, .no, .no, .no] _ _
  have ret : ∀ {G : SL} (x : Stp) (f b : Spn), St4 41 x → OrdS f → OrdS b → SzS 130 f → SzS 130 b → ∃ r' os, (Res.d (.tup [stD x, sD f, sD b])).le r' ∧ Backs (.own .sto :: G) [0] os ∧ Post r' os := fun x f b h1 h2 h3 h4 h5 => ⟨_, _, rfl, ⟨.sto, .sto, [], rfl, rfl, .inl rfl, rfl⟩, post x f b h1 h2 h3 h4 h5⟩
  refine wb_cons (ws_set 1 (we_takeI (m := 5) c_l_take 0 0 fun k hk => ?_))
  refine wb_cut (fun Γ => Γ = [.own .sto, .d (.int (k : Int)), .no, .no, .no, .no, .no]) (ws_ifE (et_eq (ev_var 1) ev_int) (fun h => ?_) (fun h => wb_nil rfl)) ?_
  · refine wb_cut (fun Γ => ∃ x : Stp, Γ = [.own .sto, .d (.int (k : Int)), .d (stD x), .no, .no, .no, .no] ∧ St4 41 x) (ws_set 2 (we_bty b_tuple dc_tuple 1 (wa_cons (wk_v (we_frz (wo_lcR1 (n' := n_l_drawn_c1) 6 (fun i acc => ∃ us : List Rat, acc = us.map qD ∧ us.length = i ∧ ∀ u ∈ us, Sz 41 u) (fun _ q => q = true) 4 ⟨⟨_, rfl, by decide +kernel⟩, by decide +kernel, rfl, rfl, rfl, rfl, rfl, rfl, rfl, (by intro o h; cases h)⟩ b_range 2 (we_of ev_int ⟨_, rfl, rfl, by decide, by decide, rfl⟩) (by decide) ⟨[], rfl, rfl, by simp⟩ (fun X' c' hb i hi => ⟨rfl, rfl⟩) (fun X' c' hb i acc hi _ hacc _ => ?_) (fun i acc _ h _ => (by cases h)) (fun out ho => ⟨_, rfl, wa_nil ⟨_, rfl, _, _, rfl, rfl, ?_⟩⟩))))))) ?_
    · obtain ⟨us, rfl, u1, u2⟩ := hacc
      refine we_ratio (n := n_l_drawn_c1) (c_l_ratio.blk hb) 0 0 (ev_sub (ev_pow ev_int ev_int ⟨by decide, by decide, by decide⟩) ev_int) (by decide) (by decide) fun q hq => ⟨rfl, us ++ [q], by rw [List.map_append]; rfl, by rw [List.length_append, u1]; rfl, fun x hx => ?_⟩
      rcases List.mem_append.mp hx with h | h
      · exact u2 x h
      · have : x = q := by simpa using h
        rw [this]; exact hq
    · obtain ⟨us, rfl, u1, u2⟩ := ho
      obtain ⟨a, b, c', d, rfl⟩ := list4 u1
      exact ⟨(a, b, c', d), rfl, u2 _ (by simp), u2 _ (by simp), u2 _ (by simp), u2 _ (by simp)⟩
    rintro Γ ⟨x, rfl, hx⟩
    refine wb_one (ws_ret (we_tup (wa_cons (wk_e (we_of (ev_var 2) (wa_cons (wk_e (we_st0 c_l_wide_span 3 0 fun Q q => ⟨rfl, fun f f1 f2 => q _ ⟨_, rfl, ?_⟩⟩))))))))
    exact wa_cons (wk_e (we_st0 c_l_wide_span 3 0 fun Q2 q2 => ⟨rfl, fun b b1 b2 => q2 _ ⟨_, rfl, wa_nil ⟨[stD x, sD f, sD b], rfl, Nat.le_of_ble_eq_true rfl, ret x f b hx f1 b1 (f2.mono (by decide)) (b2.mono (by decide))⟩⟩⟩))
  rintro Γ rfl
  have st6 : ∀ {x : Stp}, St4 6 x → St4 41 x := fun h => ⟨h.1.mono (by decide), h.2.1.mono (by decide), h.2.2.1.mono (by decide), h.2.2.2.mono (by decide)⟩
  refine wb_cut (fun Γ => Γ = [.own .sto, .d (.int (k : Int)), .no, .no, .no, .no, .no]) (ws_ifE (et_eq (ev_var 1) ev_int) (fun h => ?_) (fun h => wb_nil rfl)) ?_
  · refine wb_one (ws_ret (we_tup (wa_cons (wk_e (we_st0 c_l_stamps 4 0 fun Q q => ⟨rfl, fun x x1 => q _ ⟨_, rfl, ?_⟩⟩)))))
    refine wa_cons (wk_e (we_sto c_l_span 5 0 (sto_ea (ea_cons (ek_d ev_int) ea_nil) fun Q2 q2 => ⟨48, rfl, by decide, fun f f1 f2 => q2 _ ⟨_, rfl, ?_⟩⟩)))
    exact wa_cons (wk_e (we_sto c_l_span 5 0 (sto_ea (ea_cons (ek_d ev_int) ea_nil) fun Q3 q3 => ⟨48, rfl, by decide, fun b b1 b2 => q3 _ ⟨_, rfl, wa_nil ⟨[stD x, sD f, sD b], rfl, Nat.le_of_ble_eq_true rfl, ret x f b (st6 x1) f1 b1 (f2.mono (by decide)) (b2.mono (by decide))⟩⟩⟩)))
  rintro Γ rfl
  refine wb_cut (fun Γ => ∃ x : Stp, Γ = [.own .sto, .d (.int (k : Int)), .d (stD x), .no, .no, .no, .no] ∧ St4 41 x) (ws_set 2 (we_st0 c_l_stamps 4 0 fun Q q => ⟨rfl, fun x x1 => q _ ⟨_, rfl, x, rfl, st6 x1⟩⟩)) ?_
  rintro Γ ⟨x, rfl, hx⟩
  refine wb_cut (fun Γ => ∃ x : Stp, Γ = [.own .sto, .d (.int (k : Int)), .d (stD x), .no, .no, .no, .no] ∧ St4 41 x) (ws_ifE (et_eq (ev_var 1) ev_int) (fun h => ?_) (fun h => wb_nil ⟨x, rfl, hx⟩)) ?_
  · refine wb_one (ws_set 2 (we_bty b_tuple dc_tuple 1 (wa_cons (wk_v (we_frz (wo_lcR1 (n' := n_l_drawn_c2) 6 (fun i acc => ∃ us : List Rat, acc = us.map qD ∧ us.length = i ∧ ∀ u ∈ us, Sz 41 u) (fun _ q => q = true) 4 ⟨⟨_, rfl, by decide +kernel⟩, by decide +kernel, rfl, rfl, rfl, rfl, rfl, rfl, rfl, (by intro o h; cases h)⟩ b_range 2 (we_of ev_int ⟨_, rfl, rfl, by decide, by decide, rfl⟩) (by decide) ⟨[], rfl, rfl, by simp⟩ (fun X' c' hb i hi => ⟨rfl, rfl⟩) (fun X' c' hb i acc hi _ hacc _ => ?_) (fun i acc _ h _ => (by cases h)) (fun out ho => ⟨_, rfl, wa_nil ⟨_, rfl, _, _, rfl, rfl, ?_⟩⟩)))))))
    · obtain ⟨us, rfl, u1, u2⟩ := hacc
      refine we_tup (wa_cons (wk_e (we_subR (we_take (n := n_l_drawn_c2) (c_l_take.blk hb) 0 0 (we_of (ev_is (y := .int ((2000000001 : Nat) : Int)) (ev_add (ev_mul ev_int (ev_pow ev_int ev_int ⟨by decide, by decide, by decide⟩) ((show Bt 40 _ from bt_of (by decide) (by decide)).cm (show Bt 40 _ from bt_of (by decide) (by decide)) (by decide))) ev_int) (congrArg DL.D.int (by decide))) ⟨rfl, 2000000001, rfl, by decide, bt64 (by decide), fun m hm => ⟨rfl, _, rfl, ?_⟩⟩)) (ev_pow ev_int ev_int ⟨by decide, by decide, by decide⟩))))
      refine wa_cons (wk_e (we_of ev_int (wa_nil ⟨_, rfl, Nat.le_of_ble_eq_true rfl, rfl, us ++ [fr ((m : Int) - 1000000000) 1], ?_, by rw [List.length_append, u1]; rfl, fun y hy => ?_⟩)))
      · rw [List.map_append]
        show _ ++ [DL.D.tup [.int ((m : Int) - 1000000000), .int 1]] = _
        rw [qD_fr (by decide) (Int.one_gcd)]; rfl
      · rcases List.mem_append.mp hy with h | h
        · exact u2 y h
        · have : y = fr ((m : Int) - 1000000000) 1 := by simpa using h
          rw [this]
          exact fr_sz ((show Bt 40 _ from bt_of (by omega) (by omega)).mono (by decide)) (bt_of (by decide) (by decide)) (by decide)
    · obtain ⟨us, rfl, u1, u2⟩ := ho
      obtain ⟨a, b, c', d, rfl⟩ := list4 u1
      exact ⟨(a, b, c', d), rfl, u2 _ (by simp), u2 _ (by simp), u2 _ (by simp), u2 _ (by simp)⟩
  clear hx x
  rintro Γ ⟨⟨x1, x2, x3, x4⟩, rfl, hx⟩
  have ⟨h1, h2, h3, h4⟩ := hx
  refine wb_cons (ws_set 3 (we_draw c_l_part 6 0 fun f hf => ?_))
  have hf6 : Sz 6 f := Sd.sz hf (by decide) (by decide) (by decide)
  refine wb_cons (ws_set 4 (we_of (ev_call2 c_l_minus 7 (ek_v (ev_call2 c_l_minus 7 (ek_v (ev_ixt (z := qD x2) (ev_var 2) ev_int)) (ek_v (ev_ixt (z := qD x1) (ev_var 2) ev_int)) fun _ z => ⟨_, _, 41, 41, rfl, h2, h1, by decide, z⟩)) (ek_s 3) fun _ z => ⟨_, _, 41 + 41 + 1, 6, rfl, h2.sub h1, hf6, by decide, z⟩) ?_))
  refine wb_cons (ws_set 5 (we_of (ev_call2 c_l_plus 8 (ek_v (ev_call2 c_l_minus 7 (ek_v (ev_ixt (z := qD x4) (ev_var 2) ev_int)) (ek_v (ev_ixt (z := qD x3) (ev_var 2) ev_int)) fun _ z => ⟨_, _, 41, 41, rfl, h4, h3, by decide, z⟩)) (ek_s 3) fun _ z => ⟨_, _, 41 + 41 + 1, 6, rfl, h4.sub h3, hf6, by decide, z⟩) ?_))
  have q1 := (h2.sub h1).sub hf6
  have q2 := (h4.sub h3).add hf6
  refine wb_one (ws_ret (we_tup (wa_cons (wk_e (we_of (ev_var 2) (wa_cons (wk_e (we_sto c_l_round 9 0 (sto_ea (hr := by simp [readIx]) (ea_cons (ek_v (ev_var 4)) ea_nil) fun Q q => ⟨_, _, rfl, q1, by decide, fun f f1 f2 => q _ ⟨_, rfl, ?_⟩⟩)))))))))
  exact wa_cons (wk_e (we_sto c_l_round 9 0 (sto_ea (hr := by simp [readIx]) (ea_cons (ek_v (ev_var 5)) ea_nil) fun Q q => ⟨_, _, rfl, q2, by decide, fun b b1 b2 => q _ ⟨_, rfl, wa_nil ⟨[stD (x1, x2, x3, x4), sD f, sD b], rfl, Nat.le_of_ble_eq_true rfl, ret _ f b hx f1 b1 (f2.mono (by decide)) (b2.mono (by decide))⟩⟩⟩)))


/-! _law_is_int -/
abbrev s_l_is_int : Stmt := top 29
abbrev n_l_is_int : Nm := { N := ["_law_value"], V := [0], as := [0], GN := ["isinstance", "int", "bool"], k := 0, oi := [], lc := [0], sc := none }
theorem sc_l_is_int : FnScope n_l_is_int.N ["_law_value"] (defScope s_l_is_int) := ⟨rfl, rfl, rfl, by decide +kernel, rfl, by decide +kernel, by decide +kernel⟩
theorem sb_l_is_int : ScOk (defScope s_l_is_int) n_l_is_int := scOk_of (by decide +kernel)
abbrev S_l_is_int : Sg := ST_isint
theorem bd_l_is_int {X : Cx} {c : Cc} (b_isinstance : Blt X "isinstance" (.builtin "isinstance")) (b_int : Blt X "int" (.type "int")) (b_bool : Blt X "bool" (.type "bool")) : ∀ ps Post, S_l_is_int ps Post → WB X n_l_is_int c (entry n_l_is_int.N ps) (defBody s_l_is_int) (fnD n_l_is_int.oi Post) := by
  rintro ps Post ⟨x, rfl, post⟩
  show WB X n_l_is_int c [.w x] _ _
  refine wb_one (ws_ret (we_of (ev_and (ev_isi b_isinstance b_int 0 1 (ek_s 0)) fun h => ev_one (ev_not (ev_isi b_isinstance b_bool 0 2 (ek_s 0)))) ⟨_, [], rfl, rfl, ?_⟩))
  rw [isI_ty]; exact post


/-! _law_is_frac -/
abbrev s_l_is_frac : Stmt := top 36
abbrev n_l_is_frac : Nm := { N := ["_law_value"], V := [0], as := [0], GN := ["isinstance", "tuple", "len", "_law_is_int", "_law_frac"], k := 1, oi := [], lc := [0], sc := none }
theorem sc_l_is_frac : FnScope n_l_is_frac.N ["_law_value"] (defScope s_l_is_frac) := ⟨rfl, rfl, rfl, by decide +kernel, rfl, by decide +kernel, by decide +kernel⟩
theorem sb_l_is_frac : ScOk (defScope s_l_is_frac) n_l_is_frac := scOk_of (by decide +kernel)
abbrev S_l_is_frac : Sg := ST_isfrac
theorem bd_l_is_frac {X : Cx} {c : Cc} (b_isinstance : Blt X "isinstance" (.builtin "isinstance")) (b_tuple : Blt X "tuple" (.type "tuple")) (b_len : Blt X "len" (.builtin "len")) (c_l_is_int : CalF X n_l_is_frac.k "_law_is_int" S_l_is_int) (c_l_frac : CalF X n_l_is_frac.k "_law_frac" S_l_frac) : ∀ ps Post, S_l_is_frac ps Post → WB X n_l_is_frac c (entry n_l_is_frac.N ps) (defBody s_l_is_frac) (fnD n_l_is_frac.oi Post) := by
  rintro ps Post ⟨x, rfl, ⟨q, rfl, hq⟩, post⟩
  show WB X n_l_is_frac c [.w (qD q)] _ _
  have i0 : (qD q).at 0 = some (.int q.num) := rfl
  have i1 : (qD q).at 1 = some (.int (q.den : Int)) := rfl
  refine wb_cut (fun Γ => Γ = [.w (qD q)]) (ws_ifE (EW.t (ew_or (et_not (et_isi b_isinstance b_tuple 0 1 (ek_s 0))) fun _ => ew_or1 (et_ne (ev_len (x := qD q) (m := 2) b_len 2 (ek_s 0)) ev_int))) (fun h => absurd h (by rw [show (!tyB (qD q).ty "tuple" || !decide (((2 : Nat) : Int) = 2)) = false by simp [tyB, D.ty]]; simp)) (fun h => wb_nil rfl)) ?_
  rintro Γ rfl
  refine wb_cut (fun Γ => Γ = [.w (qD q)]) (ws_ifE (EW.t (ew_or (et_not (et_val (ev_call1 c_l_is_int 3 (ek_v (ev_ix (ek_s 0) ev_int i0)) fun _ p => ⟨_, rfl, p⟩))) fun _ => ew_or (et_not (et_val (ev_call1 c_l_is_int 3 (ek_v (ev_ix (ek_s 0) ev_int i1)) fun _ p => ⟨_, rfl, p⟩))) fun _ => ew_or1 (et_lt (ev_ix (ek_s 0) ev_int i1) ev_int))) (fun h => ?_) (fun h => wb_nil rfl)) ?_
  · have hp := den_pos' q
    simp only [D.isI, Bool.not_true, Bool.false_or, decide_eq_true_eq] at h
    omega
  rintro Γ rfl
  refine wb_one (ws_ret (we_of (ev_eqD (ek_d (ev_call2 c_l_frac 4 (ek_d (ev_ix (ek_s 0) ev_int i0)) (ek_d (ev_ix (ek_s 0) ev_int i1)) fun _ p => ⟨_, _, rfl, hq.n.mono (by decide), hq.d.mono (by decide), p⟩)) (ek_s 0) (shp_q _) (shp_q _)) ⟨_, [], rfl, rfl, ?_⟩))
  rw [eqv_q, show fr q.num (q.den : Int) = q from Rat.num_divInt_den q]
  simpa using post


/-! _law_is_span -/
abbrev s_l_is_span : Stmt := top 44
abbrev n_l_is_span : Nm := { N := ["_law_value", "_law_one"], V := [0, 1], as := [0, 1], GN := ["isinstance", "tuple", "len", "_law_is_frac", "_law_below"], k := 2, oi := [], lc := [0, 1], sc := none }
theorem sc_l_is_span : FnScope n_l_is_span.N ["_law_value"] (defScope s_l_is_span) := ⟨rfl, rfl, rfl, by decide +kernel, rfl, by decide +kernel, by decide +kernel⟩
theorem sb_l_is_span : ScOk (defScope s_l_is_span) n_l_is_span := scOk_of (by decide +kernel)
abbrev S_l_is_span : Sg := ST_isspan
theorem bd_l_is_span {X : Cx} {c : Cc} (b_isinstance : Blt X "isinstance" (.builtin "isinstance")) (b_tuple : Blt X "tuple" (.type "tuple")) (b_len : Blt X "len" (.builtin "len")) (c_l_is_frac : CalF X n_l_is_span.k "_law_is_frac" S_l_is_frac) (c_l_below : CalF X n_l_is_span.k "_law_below" S_l_below) : ∀ ps Post, S_l_is_span ps Post → WB X n_l_is_span c (entry n_l_is_span.N ps) (defBody s_l_is_span) (fnD n_l_is_span.oi Post) := by
  rintro ps Post ⟨⟨a, b⟩, k, rfl, ho, ⟨ha, hb⟩, hk, post⟩
  show WB X n_l_is_span c [.w (sD (a, b)), .no] _ _
  refine wb_cut (fun Γ => Γ = [.w (sD (a, b)), .no]) (ws_ifE (EW.t (ew_or (et_not (et_isi b_isinstance b_tuple 0 1 (ek_s 0))) fun _ => ew_or1 (et_ne (ev_len (x := sD (a, b)) (m := 2) b_len 2 (ek_s 0)) ev_int))) (fun h => ?_) (fun h => wb_nil rfl)) ?_
  · simp [tyB, DL.D.ty] at h
  rintro Γ rfl
  refine wb_cut (fun Γ => ∃ u, Γ = [.w (sD (a, b)), u]) (ws_forT 1 (fun i Γ => ∃ u, Γ = [.w (sD (a, b)), u]) [oD a, oD b] (we_of (ev_fix 0) ⟨rfl, _, rfl⟩) ?_ (fun _ h => h)) ?_
  · rintro i Γ d hd ⟨u, rfl⟩
    have hd' : ([a, b].map oD)[i]? = some d := hd
    rw [List.getElem?_map] at hd'
    obtain ⟨o, ho, rfl⟩ := Option.map_eq_some_iff.mp hd'
    have hm : o = a ∨ o = b := by simpa using List.mem_of_getElem? ho
    have so : SzO k o := by rcases hm with rfl | rfl <;> assumption
    cases o with
    | none => exact wb_one (ws_ifE (EW.t (ew_and (q := true) (et_notN (ek_s 1)) fun h => (by cases h))) (fun h => (by cases h)) (fun h => wb_nil ⟨_, rfl⟩))
    | some x => exact wb_one (ws_ifE (EW.t (ew_and (et_notN (ek_s 1)) fun h => ew_and1 (et_not (et_val (p := true) (ev_call1 c_l_is_frac 3 (ek_s 1) fun _ z => ⟨_, rfl, ⟨x, rfl, (so x rfl).mono (by omega)⟩, z⟩))))) (fun h => (by cases h)) (fun h => wb_nil ⟨_, rfl⟩))
  rintro Γ ⟨u, rfl⟩
  cases a with
  | none =>
    refine wb_one (ws_ret (we_of (ev_or (q := true) (ev_isN (ek_v (ev_ix (z := .non) (ek_s 0) ev_int rfl))) fun h => (by cases h)) ⟨_, [], rfl, rfl, ?_⟩))
    exact post
  | some x =>
    cases b with
    | none =>
      refine wb_one (ws_ret (we_of (ev_or (ev_isN (ek_v (ev_ix (z := qD x) (ek_s 0) ev_int rfl))) fun _ => ev_or (q := true) (ev_isN (ek_v (ev_ix (z := .non) (ek_s 0) ev_int rfl))) fun h => (by cases h)) ⟨_, [], rfl, rfl, ?_⟩))
      exact post
    | some y =>
      refine wb_one (ws_ret (we_of (ev_or (ev_isN (ek_v (ev_ix (z := qD x) (ek_s 0) ev_int rfl))) fun _ => ev_or (ev_isN (ek_v (ev_ix (z := qD y) (ek_s 0) ev_int rfl))) fun _ => ev_one (ev_not (ev_call2 c_l_below 4 (ek_v (ev_ix (z := qD y) (ek_s 0) ev_int rfl)) (ek_v (ev_ix (z := qD x) (ek_s 0) ev_int rfl)) fun _ z => ⟨_, _, _, _, rfl, hb y rfl, ha x rfl, by omega, z⟩))) ⟨_, [], rfl, rfl, ?_⟩))
      rw [decide_eq_false (ho x y rfl rfl)]; exact post


/-! _law_ordered -/
abbrev s_l_ordered : Stmt := top 42
abbrev n_l_ordered : Nm := { N := ["_law_fracs", "_law_row", "_law_one", "_law_spot", "_law_k"], V := [0, 1, 2, 3, 4], as := [0, 1, 2, 3, 4], GN := ["range", "len", "_law_below"], k := 1, oi := [], lc := [0, 1, 2, 3, 4], sc := none }
theorem sc_l_ordered : FnScope n_l_ordered.N ["_law_fracs"] (defScope s_l_ordered) := ⟨rfl, rfl, rfl, by decide +kernel, rfl, by decide +kernel, by decide +kernel⟩
theorem sb_l_ordered : ScOk (defScope s_l_ordered) n_l_ordered := scOk_of (by decide +kernel)
abbrev S_l_ordered : Sg := ST_ordered
theorem bd_l_ordered {X : Cx} {c : Cc} (b_range : Blt X "range" (.type "range")) (b_len : Blt X "len" (.builtin "len")) (c_l_below : CalF X n_l_ordered.k "_law_below" S_l_below) : ∀ ps Post, S_l_ordered ps Post → WB X n_l_ordered c (entry n_l_ordered.N ps) (defBody s_l_ordered) (fnD n_l_ordered.oi Post) := by
  rintro ps Post ⟨qs, k, rfl, hk, hz, hl, post⟩
  show WB X n_l_ordered c [.w (.lst (qs.map qD)), .no, .no, .no, .no] _ _
  refine wb_cons (ws_setO 1 (wo_of (eo_lst ea_nil) ?_))
  refine wb_cut (fun Γ => ∃ out u v w, Γ = [.w (.lst (qs.map qD)), .own (.lst (out.map qD)), u, v, w] ∧ Up out ∧ (∀ q, q ∈ out ↔ q ∈ qs) ∧ out.length ≤ qs.length) (ws_forW 0 2 (fun i Γ => ∃ out u v w, Γ = [.w (.lst (qs.map qD)), .own (.lst (out.map qD)), u, v, w] ∧ Up out ∧ (∀ q, q ∈ out ↔ q ∈ qs.take i) ∧ out.length ≤ i) (qs.map qD) rfl ⟨[], _, _, _, rfl, List.Pairwise.nil, by simp, Nat.le_refl _⟩ ?_ ?_) ?_
  · rintro i Γ d hd ⟨out, u, v, w, rfl, hu, hm, hn⟩
    have hi : i < qs.length := by have := (List.getElem?_eq_some_iff.mp hd).1; rwa [List.length_map] at this
    have e1 := atB hi
    rw [List.getElem?_map, e1] at hd
    cases hd
    have hx := hk _ (List.mem_of_getElem? e1)
    have et : qs.take (i + 1) = qs.take i ++ [qs[i]] := by rw [List.take_succ, e1]; rfl
    generalize qs[i] = x at e1 hx et
    have ho : ∀ y ∈ out, Sz k y := fun y hy => hk y (List.mem_of_mem_take ((hm y).mp hy))
    have oat : ∀ {j : Nat} {y : Rat}, out[j]? = some y → (DL.D.lst (out.map qD)).at (j : Int) = some (qD y) := fun h => at_lst (by rw [List.getElem?_map, h]; rfl)
    show WB X n_l_ordered c [.w (.lst (qs.map qD)), .own (.lst (out.map qD)), .d (qD x), v, w] _ _
    refine wb_cons (ws_set 3 (we_of ev_int ?_))
    refine wb_cut (fun Γ => ∃ (s : Nat) (w : DL.Slot), Γ = [.w (.lst (qs.map qD)), .own (.lst (out.map qD)), .d (qD x), .d (.int (s : Int)), w] ∧ Spot out x out.length s) (ws_forR1 4 (fun j Γ => ∃ (s : Nat) (w : DL.Slot), Γ = [.w (.lst (qs.map qD)), .own (.lst (out.map qD)), .d (qD x), .d (.int (s : Int)), w] ∧ Spot out x j s) out.length b_range 0 (we_of (ev_len (x := .lst (out.map qD)) (m := (out.map qD).length) b_len 1 (ek_s 1)) ⟨_, rfl, by simp, by rw [List.length_map]; omega, by omega, 0, _, rfl, .zero⟩) ?_ (fun _ h => h)) ?_
    · rintro j Γ hj ⟨s, w, rfl, hs⟩
      have e2 := atB hj
      generalize out[j] = y at e2
      have hy := ho y (List.mem_of_getElem? e2)
      show WB X n_l_ordered c [.w (.lst (qs.map qD)), .own (.lst (out.map qD)), .d (qD x), .d (.int (s : Int)), .d (.int (j : Int))] _ _
      refine wb_one (ws_ifE (et_val (ev_call2 c_l_below 2 (ek_v (ev_ix (ek_s 1) (ev_var 4) (oat e2))) (ek_s 2) fun _ z => ⟨_, _, _, _, rfl, hy, hx, by omega, z⟩)) (fun h => wb_one (ws_set 3 (we_of (ev_add (ev_var 4) ev_int) ⟨j + 1, _, rfl, hs.yes hu e2 (of_decide_eq_true h)⟩))) (fun h => wb_nil ⟨s, _, rfl, hs.no e2 (of_decide_eq_false h)⟩))
    rintro Γ ⟨s, w', rfl, hs⟩
    have hsl := hs.1
    have mem : ∀ q, q ∈ qs.take (i + 1) ↔ (q ∈ out ∨ q = x) := fun q => by rw [et, List.mem_append, ← hm q, List.mem_singleton]
    refine wb_one (ws_if (ww_or (wt_of (et_eq (ev_var 3) (ev_len (x := .lst (out.map qD)) (m := (out.map qD).length) b_len 1 (ek_s 1))) ⟨fun h => ?_, fun h => ?_⟩)).t)
    · have hs' : s < out.length := by
        have := of_decide_eq_false h
        rw [List.length_map] at this; omega
      have e3 := atB hs'
      refine ww_or1 (wt_of (et_neD (ek_d (ev_ix (ek_s 1) (ev_var 3) (oat e3))) (ek_s 2) (shp_q _) (shp_q _)) ⟨fun z => ?_, fun z => wb_nil ⟨out, _, _, _, rfl, hu, fun q => ?_, by omega⟩⟩)
      · rw [eqv_q] at z
        refine wb_one (ws_insert 1 (we_of (ev_var 3) ⟨s, rfl, by omega, we_of (ev_var 2) ⟨_, rfl, by rw [List.length_map]; omega, out.take s ++ [x] ++ out.drop s, _, _, _, own2 ?_, hs.ins hu fun y hy e => ?_, fun q => ?_, ?_⟩⟩))
        · rw [List.map_append, List.map_append, List.map_take, List.map_drop]; rfl
        · rw [e3] at hy; cases hy; rw [e] at z; simp at z
        · rw [mem q]
          conv => rhs; rw [← List.take_append_drop s out]
          simp only [List.mem_append, List.mem_singleton]
          constructor
          · rintro ((a | a) | a)
            · exact .inl (.inl a)
            · exact .inr a
            · exact .inl (.inr a)
          · rintro ((a | a) | a)
            · exact .inl (.inl a)
            · exact .inr a
            · exact .inl (.inr a)
        · simp only [List.length_append, List.length_take, List.length_drop, List.length_singleton]; omega
      · rw [eqv_q] at z
        have ex : out[s] = x := by simpa using z
        rw [mem q]
        constructor
        · exact fun a => .inl a
        · rintro (a | a)
          · exact a
          · rw [a, ← ex]; exact List.getElem_mem hs'
    · have hs' : s = out.length := by
        have := of_decide_eq_true h
        rw [List.length_map] at this; omega
      refine ⟨fun _ => ?_, fun z => (by cases z)⟩
      refine wb_one (ws_insert 1 (we_of (ev_var 3) ⟨s, rfl, by omega, we_of (ev_var 2) ⟨_, rfl, by rw [List.length_map]; omega, out.take s ++ [x] ++ out.drop s, _, _, _, own2 ?_, hs.ins hu fun y hy e => ?_, fun q => ?_, ?_⟩⟩))
      · rw [List.map_append, List.map_append, List.map_take, List.map_drop]; rfl
      · have := (List.getElem?_eq_some_iff.mp hy).1; omega
      · rw [mem q, hs', List.take_length, List.drop_length, List.append_nil, List.mem_append, List.mem_singleton]
      · simp only [List.length_append, List.length_take, List.length_drop, List.length_singleton]; omega
  · rintro Γ ⟨out, u, v, w, rfl, hu, hm, hn⟩
    rw [List.length_map] at hm hn
    rw [List.take_length] at hm
    exact ⟨out, u, v, w, rfl, hu, hm, hn⟩
  rintro Γ ⟨out, u, v, w, rfl, hu, hm, hn⟩
  exact wb_one (ws_retS 1 ⟨.own _, [], .inl rfl, rfl, post out hu hm hn⟩)


/-! _law_times -/
abbrev s_l_times : Stmt := top 34
abbrev n_l_times : Nm := { N := ["_law_a", "_law_b"], V := [0, 1], as := [0, 1], GN := ["_law_frac"], k := 1, oi := [], lc := [0, 1], sc := none }
theorem sc_l_times : FnScope n_l_times.N ["_law_a", "_law_b"] (defScope s_l_times) := ⟨rfl, rfl, rfl, by decide +kernel, rfl, by decide +kernel, by decide +kernel⟩
theorem sb_l_times : ScOk (defScope s_l_times) n_l_times := scOk_of (by decide +kernel)
abbrev S_l_times : Sg := ST_2 (· * ·)
theorem bd_l_times {X : Cx} {c : Cc} (c_l_frac : CalF X n_l_times.k "_law_frac" S_l_frac) : ∀ ps Post, S_l_times ps Post → WB X n_l_times c (entry n_l_times.N ps) (defBody s_l_times) (fnD n_l_times.oi Post) := by
  rintro ps Post ⟨a, b, j, k, rfl, ha, hb, hjk, post⟩
  show WB X n_l_times c [.w (qD a), .w (qD b)] _ _
  have m1 : ∀ {u v : Int}, Bt (8 * j) u → Bt (8 * k) v → CMulW u v := fun h h' => h.cm h' (by omega)
  have m2 : ∀ {u v : Int}, Bt (8 * k) u → Bt (8 * j) v → CMulW u v := fun h h' => h.cm h' (by omega)
  have i0 : ∀ q : Rat, (qD q).at 0 = some (.int q.num) := fun _ => rfl
  have i1 : ∀ q : Rat, (qD q).at 1 = some (.int (q.den : Int)) := fun _ => rfl
  refine wb_one (ws_ret (we_of (ev_call2 c_l_frac 0 (ek_d (ev_mul (ev_ix (ek_s 0) ev_int (i0 a)) (ev_ix (ek_s 1) ev_int (i0 b)) (m1 ha.n hb.n))) (ek_d (ev_mul (ev_ix (ek_s 0) ev_int (i1 a)) (ev_ix (ek_s 1) ev_int (i1 b)) (m1 (ha.d.mono (by omega)) (hb.d.mono (by omega))))) fun Q q => ⟨_, _, rfl, ?_, ?_, ?_⟩) ⟨_, [], rfl, rfl, post⟩))
  · exact (ha.n.mul hb.n).mono (by omega)
  · exact (ha.d.mul hb.d).mono (by omega)
  · rw [fr_mul]; exact q


/-! _law_probes -/
abbrev s_l_probes : Stmt := top 43
abbrev n_l_probes : Nm := { N := ["_law_spans", "_law_ends", "_law_span_here", "_law_row", "_law_k", "_law_one"], V := [0, 1, 2, 3, 4], as := [0, 1, 2, 3, 4], GN := ["_law_ordered", "len", "_law_minus", "range", "_law_times", "_law_plus"], k := 2, oi := [], lc := [0, 1, 2, 3, 4], sc := some (defScope s_l_probes) }
abbrev n_l_probes_c1 : Nm := { N := ["_law_spans", "_law_ends", "_law_span_here", "_law_row", "_law_k", "_law_one"], V := [5], as := [5], GN := [], k := 2, oi := [] }
theorem sc_l_probes : FnScope n_l_probes.N ["_law_spans"] (defScope s_l_probes) := ⟨rfl, rfl, rfl, by decide +kernel, rfl, by decide +kernel, by decide +kernel⟩
theorem sb_l_probes : ScOk (defScope s_l_probes) n_l_probes := scOk_of (by decide +kernel)
abbrev S_l_probes : Sg := ST_probesG
theorem bd_l_probes {X : Cx} {c : Cc} (c_l_ordered : CalF X n_l_probes.k "_law_ordered" S_l_ordered) (b_len : Blt X "len" (.builtin "len")) (c_l_minus : CalF X n_l_probes.k "_law_minus" S_l_minus) (b_range : Blt X "range" (.type "range")) (c_l_times : CalF X n_l_probes.k "_law_times" S_l_times) (c_l_plus : CalF X n_l_probes.k "_law_plus" S_l_plus) : ∀ ps Post, S_l_probes ps Post → WB X n_l_probes c (entry n_l_probes.N ps) (defBody s_l_probes) (fnD n_l_probes.oi Post) := by
  rintro ps Post ⟨_, ss, k, rfl, rfl, hk, hz, hl, post⟩
  show WB X n_l_probes c [.w (.lst (ss.map sD)), .no, .no, .no, .no, .no] _ _
  refine wb_cons (ws_setO 1 (wo_of (eo_lst ea_nil) ?_))
  refine wb_cut (fun Γ => ∃ u, Γ = [.w (.lst (ss.map sD)), .own (.lst ((endsQ ss).map qD)), u, .no, .no, .no]) (ws_forW 0 2 (fun i Γ => ∃ u, Γ = [.w (.lst (ss.map sD)), .own (.lst ((endsQ (ss.take i)).map qD)), u, .no, .no, .no]) (ss.map sD) rfl ⟨_, rfl⟩ ?_ ?_) ?_
  · rintro i Γ d hd ⟨u, rfl⟩
    rw [List.getElem?_map] at hd
    obtain ⟨s, e1, rfl⟩ := Option.map_eq_some_iff.mp hd
    have hi := (List.getElem?_eq_some_iff.mp e1).1
    have hlen : ((endsQ (ss.take i)).map qD).length ≤ 40000 := by
      have := ends_len (ss.take i)
      rw [List.length_take] at this
      rw [List.length_map]; omega
    show WB X n_l_probes c [.w (.lst (ss.map sD)), .own (.lst ((endsQ (ss.take i)).map qD)), .d (sD s), .no, .no, .no] _ _
    refine wb_one (ws_setO 1 (wo_cat (wk_ek (ek_s 1) (wk_e (we_frz (wo_lcT (n' := n_l_probes_c1) 5 (fun j acc => acc = (([s.1, s.2].take j).filterMap id).map qD) (fun j d b => ∃ o : Option Rat, [s.1, s.2][j]? = some o ∧ d = oD o ∧ b = o.isSome) ⟨⟨_, rfl, by decide +kernel⟩, by decide +kernel, rfl, rfl, rfl, rfl, rfl, rfl, rfl, (by intro o h; cases h)⟩ (ev_var 2) (Nat.le_of_ble_eq_true rfl) rfl (fun X' c' hb j d hd => ?_) (fun X' c' hb j d acc hd ht ha hn => ?_) (fun j d acc hd ht ha => ?_) (fun out ho => ?_)))))))
    · have hd' : ([s.1, s.2].map oD)[j]? = some d := hd
      rw [List.getElem?_map] at hd'
      obtain ⟨o, ho, rfl⟩ := Option.map_eq_some_iff.mp hd'
      refine wt_of (et_notN (ek_s 5)) ⟨rfl, o, ho, rfl, ?_⟩
      cases o <;> rfl
    · obtain ⟨o, ho, rfl, hb2⟩ := ht
      cases o with
      | none => cases hb2
      | some q =>
        refine we_of (ev_var 5) ⟨rfl, ?_⟩
        rw [ha, fm_step ho, List.map_append]; rfl
    · obtain ⟨o, ho, rfl, hb2⟩ := ht
      cases o with
      | some q => cases hb2
      | none => rw [ha, fm_step ho, List.map_append]; simp
    · have e2 : (([s.1, s.2].take 2).filterMap id) = s.1.toList ++ s.2.toList := by cases s.1 <;> cases s.2 <;> rfl
      have ho' : out = (([s.1, s.2].take 2).filterMap id).map qD := ho
      refine ⟨_, rfl, _, _, rfl, rfl, ?_, _, own2 ?_⟩
      · have h3 : out.length ≤ 2 := by
          rw [ho', List.length_map, e2, List.length_append]
          have h1 : s.1.toList.length ≤ 1 := by cases s.1 <;> simp
          have h2 : s.2.toList.length ≤ 1 := by cases s.2 <;> simp
          omega
        omega
      · rw [ho', e2, List.take_succ, e1, ← List.map_append]
        show _ = (endsQ (ss.take i ++ [s])).map qD
        rw [ends_snoc]
  · rintro Γ ⟨u, rfl⟩
    refine ⟨u, own2 ?_⟩
    rw [List.length_map, List.take_length]
  rintro Γ ⟨u, rfl⟩
  have hel := ends_len ss
  generalize endsQ ss = qs at *
  refine wb_cons (ws_setO 1 (wo_callE c_l_ordered 0 (ea_cons (ek_s 1) ea_nil) ⟨qs, k, rfl, hk, hz, by omega, fun out hu hm hn => ⟨_, rfl, ?_⟩⟩))
  show WB X n_l_probes c [.w (.lst (ss.map sD)), .own (.lst (out.map qD)), u, .no, .no, .no] _ _
  have ho : ∀ y ∈ out, Sz k y := fun y hy => hk y ((hm y).mp hy)
  refine wb_cut (fun Γ => Γ = [.w (.lst (ss.map sD)), .own (.lst (out.map qD)), u, .no, .no, .no] ∧ out ≠ []) (ws_ifE (et_eq (ev_len (x := .lst (out.map qD)) (m := (out.map qD).length) b_len 1 (ek_s 1)) ev_int) (fun h => ?_) (fun h => wb_nil ⟨rfl, fun z => (by rw [z] at h; cases h)⟩)) ?_
  · have h' : out = [] := by simpa using h
    refine wb_one (ws_retO (wo_of (eo_lst (ea_cons (ek_d (ev_q ev_int ev_int)) ea_nil)) ⟨.own (.lst ([fr 0 1].map qD)), [], .inl rfl, rfl, post [fr 0 1] (fun t ht => ?_) (fun z => ?_) (by simp)⟩))
    · have : t = fr 0 1 := by simpa using ht
      rw [this]
      exact (fr_sz (k := 1) (bt_of (by decide) (by decide)) (bt_of (by decide) (by decide)) (by decide)).mono (by omega)
    · obtain ⟨q, hq⟩ := List.exists_mem_of_ne_nil _ z
      have := (hm q).mpr hq
      rw [h'] at this; cases this
  rintro Γ ⟨rfl, hne'⟩
  have hpos : 0 < out.length := List.length_pos_iff.mpr hne'
  have e0 := atB hpos
  have z0 := ho _ (List.mem_of_getElem? e0)
  refine wb_cons (ws_setO 3 (wo_of (eo_lst (ea_cons (ek_d (ev_call2 c_l_minus 2 (ek_v (ev_ix (ek_s 1) ev_int (qat e0))) (ek_v (ev_q ev_int ev_int)) fun _ z => ⟨_, _, _, _, rfl, z0, sz_one, by omega, z⟩)) ea_nil)) ?_))
  refine wb_cut (fun Γ => ∃ (ts : List Rat) (v : DL.Slot), Γ = [.w (.lst (ss.map sD)), .own (.lst (out.map qD)), u, .own (.lst (ts.map qD)), v, .no] ∧ (∀ t ∈ ts, Sz (2 * k + 10) t) ∧ ts.length ≤ 2 * out.length + 1) (ws_forR1 4 (fun j Γ => ∃ (ts : List Rat) (v : DL.Slot), Γ = [.w (.lst (ss.map sD)), .own (.lst (out.map qD)), u, .own (.lst (ts.map qD)), v, .no] ∧ (∀ t ∈ ts, Sz (2 * k + 10) t) ∧ ts.length ≤ 2 * j + 1) out.length b_range 3 (we_of (ev_len (x := .lst (out.map qD)) (m := (out.map qD).length) b_len 1 (ek_s 1)) ⟨_, rfl, by simp, by rw [List.length_map]; omega, by omega, [out[0] - fr 1 1], _, rfl, ?_, by simp⟩) ?_ (fun _ h => h)) ?_
  · intro t ht
    have : t = out[0] - fr 1 1 := by simpa using ht
    rw [this]; exact (z0.sub sz_one).mono (by omega)
  · rintro j Γ hj ⟨ts, v, rfl, hs, hn2⟩
    have e1 := atB hj
    generalize out[j] = y at e1
    have zy := ho _ (List.mem_of_getElem? e1)
    show WB X n_l_probes c [.w (.lst (ss.map sD)), .own (.lst (out.map qD)), u, .own (.lst (ts.map qD)), .d (.int (j : Int)), .no] _ _
    have hs1 : ∀ t ∈ ts ++ [y], Sz (2 * k + 10) t := fun t ht => by
      rcases List.mem_append.mp ht with h | h
      · exact hs t h
      · have : t = y := by simpa using h
        rw [this]; exact zy.mono (by omega)
    refine wb_cut (fun Γ => Γ = [.w (.lst (ss.map sD)), .own (.lst (out.map qD)), u, .own (.lst ((ts ++ [y]).map qD)), .d (.int (j : Int)), .no]) (ws_append 3 (we_of (ev_ix (ek_s 1) (ev_var 4) (qat e1)) ⟨_, rfl, by rw [List.length_map]; omega, own4 (by simp)⟩)) ?_
    rintro Γ rfl
    refine wb_one (ws_ifE (et_lt (ev_add (ev_var 4) ev_int) (ev_len (x := .lst (out.map qD)) (m := (out.map qD).length) b_len 1 (ek_s 1))) (fun h => ?_) (fun h => wb_nil ⟨ts ++ [y], _, rfl, hs1, by rw [List.length_append, List.length_singleton]; omega⟩))
    have hj2 : j + 1 < out.length := by
      have := of_decide_eq_true h
      rw [List.length_map] at this; omega
    have e2 := atB hj2
    generalize out[j + 1] = y' at e2
    have zy' := ho _ (List.mem_of_getElem? e2)
    have zm : Sz (k + k + 1 + 2) ((y + y') * fr 1 2) := (zy.add zy').mul sz_half
    refine wb_one (ws_append 3 (we_of (ev_call2 c_l_times 4 (ek_v (ev_call2 c_l_plus 5 (ek_v (ev_ix (ek_s 1) (ev_var 4) (qat e1))) (ek_v (ev_ix (ek_s 1) (ev_add (ev_var 4) ev_int) (qat (j := j + 1) e2))) fun _ z => ⟨_, _, _, _, rfl, zy, zy', by omega, z⟩)) (ek_v (ev_q ev_int ev_int)) fun _ z => ⟨_, _, _, _, rfl, zy.add zy', sz_half, by omega, z⟩) ⟨_, rfl, by rw [List.length_map, List.length_append, List.length_singleton]; omega, ts ++ [y] ++ [(y + y') * fr 1 2], _, own4 (by simp), fun t ht => ?_, by simp only [List.length_append, List.length_singleton]; omega⟩))
    rcases List.mem_append.mp ht with h | h
    · exact hs1 t h
    · have : t = (y + y') * fr 1 2 := by simpa using h
      rw [this]; exact zm.mono (by omega)
  rintro Γ ⟨ts, v, rfl, hs, hn2⟩
  have e1 := atB (xs := out) (i := out.length - 1) (by omega)
  generalize out[out.length - 1] = y at e1
  have zy := ho _ (List.mem_of_getElem? e1)
  have ei : (((out.map qD).length : Nat) : Int) - 1 = ((out.length - 1 : Nat) : Int) := by rw [List.length_map]; omega
  have hs1 : ∀ t ∈ ts ++ [y + fr 1 1], Sz (2 * k + 10) t := fun t ht => by
    rcases List.mem_append.mp ht with h | h
    · exact hs t h
    · have : t = y + fr 1 1 := by simpa using h
      rw [this]; exact (zy.add sz_one).mono (by omega)
  refine wb_one (ws_retO (wo_cat (wk_ek (ek_s 3) (wk_e (we_frz (wo_of (eo_lst (ea_cons (ek_d (ev_call2 c_l_plus 5 (ek_v (ev_ix (ek_s 1) (ev_sub (ev_len (x := .lst (out.map qD)) (m := (out.map qD).length) b_len 1 (ek_s 1)) ev_int) (by rw [ei]; exact qat e1))) (ek_v (ev_q ev_int ev_int)) fun _ z => ⟨_, _, _, _, rfl, zy, sz_one, by omega, z⟩)) ea_nil)) ⟨_, rfl, ts.map qD, _, rfl, rfl, by rw [List.length_map, List.length_singleton]; omega, .own (.lst ((ts ++ [y + fr 1 1]).map qD)), [], .inl ?_, rfl, post _ hs1 (fun _ => ⟨y + fr 1 1, by simp, fun q hq => ?_⟩) ?_⟩))))))
  · simp
  · have := up_last hu e1 ((hm q).mpr hq)
    have := one_gt y
    grind
  · rw [List.length_append, List.length_singleton]; omega


/-! _law_in_span -/
abbrev s_l_in_span : Stmt := top 41
abbrev n_l_in_span : Nm := { N := ["_law_span_here", "_law_t"], V := [0, 1], as := [0, 1], GN := ["_law_below"], k := 1, oi := [], lc := [0, 1], sc := none }
theorem sc_l_in_span : FnScope n_l_in_span.N ["_law_span_here", "_law_t"] (defScope s_l_in_span) := ⟨rfl, rfl, rfl, by decide +kernel, rfl, by decide +kernel, by decide +kernel⟩
theorem sb_l_in_span : ScOk (defScope s_l_in_span) n_l_in_span := scOk_of (by decide +kernel)
abbrev S_l_in_span : Sg := ST_inspan
theorem bd_l_in_span {X : Cx} {c : Cc} (c_l_below : CalF X n_l_in_span.k "_law_below" S_l_below) : ∀ ps Post, S_l_in_span ps Post → WB X n_l_in_span c (entry n_l_in_span.N ps) (defBody s_l_in_span) (fnD n_l_in_span.oi Post) := by
  rintro ps Post ⟨⟨a, b⟩, t, j, k, rfl, ⟨ha, hb⟩, ht, hjk, post⟩
  show WB X n_l_in_span c [.w (sD (a, b)), .w (qD t)] _ _
  refine wb_cut (fun Γ => Γ = [.w (sD (a, b)), .w (qD t)] ∧ loIn a t = true) ?_ ?_
  · cases a with
    | none => exact ws_ifE (EW.t (ew_and (q := true) (et_notN (ek_v (ev_ix (z := .non) (ek_s 0) ev_int rfl))) fun h => (by cases h))) (fun h => (by cases h)) (fun h => wb_nil ⟨rfl, rfl⟩)
    | some x =>
      refine ws_ifE (EW.t (ew_and (et_notN (ek_v (ev_ix (z := qD x) (ek_s 0) ev_int rfl))) fun h => ew_and1 (et_val (ev_call2 c_l_below 0 (ek_s 1) (ek_v (ev_ix (z := qD x) (ek_s 0) ev_int rfl)) fun _ z => ⟨_, _, _, _, rfl, ht, ha x rfl, by omega, z⟩)))) (fun h => wb_one (ws_ret (we_of ev_bl ⟨_, [], rfl, rfl, ?_⟩))) (fun h => wb_nil ⟨rfl, ?_⟩)
      · have h' : decide (t < x) = true := h
        have e : inS (some x, b) t = false := by show (!decide (t < x) && hiIn b t) = false; rw [h']; rfl
        rw [e] at post; exact post
      · have h' : decide (t < x) = false := h
        show (!decide (t < x)) = true; rw [h']; rfl
  rintro Γ ⟨rfl, h⟩
  have e : inS (a, b) t = hiIn b t := by unfold inS; rw [h]; rfl
  rw [e] at post
  cases b with
  | none =>
    refine wb_one (ws_ret (we_of (ev_or (q := true) (ev_isN (ek_v (ev_ix (z := .non) (ek_s 0) ev_int rfl))) fun h => (by cases h)) ⟨_, [], rfl, rfl, ?_⟩))
    exact post
  | some x =>
    refine wb_one (ws_ret (we_of (ev_or (ev_isN (ek_v (ev_ix (z := qD x) (ek_s 0) ev_int rfl))) fun _ => ev_one (ev_not (ev_call2 c_l_below 0 (ek_v (ev_ix (z := qD x) (ek_s 0) ev_int rfl)) (ek_s 1) fun _ z => ⟨_, _, _, _, rfl, hb x rfl, ht, by omega, z⟩))) ⟨_, [], rfl, rfl, ?_⟩))
    exact post


/-! _law_offsets_ok -/
abbrev s_l_offsets_ok : Stmt := top 49
abbrev n_l_offsets_ok : Nm := { N := ["_law_readings", "_law_forth", "_law_back", "_law_told", "_law_there", "_law_home", "_law_first", "_law_second", "_law_spans", "_law_f", "_law_permitted", "_law_one"], V := [0, 1, 2, 3, 4, 5, 6, 7, 8, 9, 10], as := [0, 1, 2, 3, 4, 5, 6, 7, 8, 9, 10], GN := ["_law_minus", "_law_is_span", "_law_probes", "_law_in_span", "_law_plus"], k := 3, oi := [], lc := [0, 1, 2, 3, 6, 7, 8, 9, 10], sc := some (defScope s_l_offsets_ok) }
abbrev n_l_offsets_ok_c1 : Nm := { N := ["_law_readings", "_law_forth", "_law_back", "_law_told", "_law_there", "_law_home", "_law_first", "_law_second", "_law_spans", "_law_f", "_law_permitted", "_law_one"], V := [4, 11], as := [11], GN := ["_law_minus"], k := 3, oi := [] }
abbrev n_l_offsets_ok_c2 : Nm := { N := ["_law_readings", "_law_forth", "_law_back", "_law_told", "_law_there", "_law_home", "_law_first", "_law_second", "_law_spans", "_law_f", "_law_permitted", "_law_one"], V := [5, 11], as := [11], GN := ["_law_minus"], k := 3, oi := [] }
theorem sc_l_offsets_ok : FnScope n_l_offsets_ok.N ["_law_readings", "_law_forth", "_law_back", "_law_told"] (defScope s_l_offsets_ok) := ⟨rfl, rfl, rfl, by decide +kernel, rfl, by decide +kernel, by decide +kernel⟩
theorem sb_l_offsets_ok : ScOk (defScope s_l_offsets_ok) n_l_offsets_ok := scOk_of (by decide +kernel)
abbrev S_l_offsets_ok : Sg := ST_offok
theorem bd_l_offsets_ok {X : Cx} {c : Cc} (c_l_minus : CalF X n_l_offsets_ok.k "_law_minus" S_l_minus) (c_l_is_span : CalF X n_l_offsets_ok.k "_law_is_span" S_l_is_span) (c_l_probes : CalF X n_l_offsets_ok.k "_law_probes" S_l_probes) (c_l_in_span : CalF X n_l_offsets_ok.k "_law_in_span" S_l_in_span) (c_l_plus : CalF X n_l_offsets_ok.k "_law_plus" S_l_plus) : ∀ ps Post, S_l_offsets_ok ps Post → WB X n_l_offsets_ok c (entry n_l_offsets_ok.N ps) (defBody s_l_offsets_ok) (fnD n_l_offsets_ok.oi Post) := by
  rintro ps Post ⟨x, ⟨f1, f2⟩, ⟨b1, b2⟩, j, k, rfl, hx, hf, hb, hj, post⟩
  have ho := fun t h => off_ord (x := x) (f := (f1, f2)) (b := (b1, b2)) (s := t) h
  have hz := fun t h => off_sz (x := x) (f := (f1, f2)) (b := (b1, b2)) (s := t) h hx hf hb
  have hin := fun t => in_off x (f1, f2) (b1, b2) t
  show WB X n_l_offsets_ok c [.w (stD x), .w (sD (f1, f2)), .w (sD (b1, b2)), .w (oS (offQ x (f1, f2) (b1, b2))), .no, .no, .no, .no, .no, .no, .no, .no] _ _
  generalize offQ x (f1, f2) (b1, b2) = o at *
  obtain ⟨x1, x2, x3, x4⟩ := x
  have ⟨h1, h2, h3, h4⟩ := hx
  have zt : Sz (2 * j + 1) (x2 - x1) := (h2.sub h1).mono (by omega)
  have zh : Sz (2 * j + 1) (x4 - x3) := (h4.sub h3).mono (by omega)
  have hin' : ∀ t, inO o t = (inS (f1, f2) (x2 - x1 - t) && inS (b1, b2) (x4 - x3 + t)) := hin
  refine wb_cons (ws_set 4 (we_of (ev_call2 c_l_minus 0 (ek_v (ev_ix (z := qD x2) (ek_s 0) ev_int rfl)) (ek_v (ev_ix (z := qD x1) (ek_s 0) ev_int rfl)) fun _ z => ⟨_, _, j, j, rfl, h2, h1, by omega, z⟩) ?_))
  refine wb_cons (ws_set 5 (we_of (ev_call2 c_l_minus 0 (ek_v (ev_ix (z := qD x4) (ek_s 0) ev_int rfl)) (ek_v (ev_ix (z := qD x3) (ek_s 0) ev_int rfl)) fun _ z => ⟨_, _, j, j, rfl, h4, h3, by omega, z⟩) ?_))
  show WB X n_l_offsets_ok c [.w (stD (x1, x2, x3, x4)), .w (sD (f1, f2)), .w (sD (b1, b2)), .w (oS o), .d (qD (x2 - x1)), .d (qD (x4 - x3)), .no, .no, .no, .no, .no, .no] _ _
  generalize x2 - x1 = th at *
  generalize x4 - x3 = hm at *
  refine wb_cons (ws_lcT (n' := n_l_offsets_ok_c1) 11 6 (fun i acc => acc = ([f1, f2].take i).map (fun o => oD (o.map (th - ·)))) (fun _ _ q => q = true) ⟨⟨_, rfl, by decide +kernel⟩, by decide +kernel, rfl, rfl, rfl, rfl, rfl, rfl, rfl, (by intro o h; cases h)⟩ (ev_fix 1) (Nat.le_of_ble_eq_true rfl) rfl (fun X' c' hb i d _ => ⟨rfl, rfl⟩) (fun X' c' hbk i d acc hd _ hacc _ => ?_) (fun i d acc _ h _ => (by cases h)) (fun out ho1 => ?_))
  · have hd' : ([f1, f2].map oD)[i]? = some d := hd
    rw [List.getElem?_map] at hd'
    obtain ⟨u, hu, rfl⟩ := Option.map_eq_some_iff.mp hd'
    have hm2 : u = f1 ∨ u = f2 := by simpa using List.mem_of_getElem? hu
    have su : SzO k u := by
      rcases hm2 with rfl | rfl
      · exact hf.1
      · exact hf.2
    refine we_of (x := oD (u.map (th - ·))) ?_ ⟨rfl, ?_⟩
    · cases u with
      | none => exact ev_if (et_isN (ek_s 11)) (fun _ => ev_non) (fun h => (by cases h))
      | some y => exact ev_if (et_isN (ek_s 11)) (fun h => (by cases h)) (fun _ => ev_call2 (n := n_l_offsets_ok_c1) (c_l_minus.blk hbk) 0 (ek_s 4) (ek_s 11) fun _ z => ⟨th, y, _, k, rfl, zt, su y rfl, by omega, z⟩)
    · rw [hacc, List.take_succ, hu, List.map_append]; rfl
  have ho1' : out = [oD (f1.map (th - ·)), oD (f2.map (th - ·))] := ho1
  subst ho1'
  refine wb_cons (ws_lcT (n' := n_l_offsets_ok_c2) 11 7 (fun i acc => acc = ([b1, b2].take i).map (fun o => oD (o.map (· - hm)))) (fun _ _ q => q = true) ⟨⟨_, rfl, by decide +kernel⟩, by decide +kernel, rfl, rfl, rfl, rfl, rfl, rfl, rfl, (by intro o h; cases h)⟩ (ev_fix 2) (Nat.le_of_ble_eq_true rfl) rfl (fun X' c' hb i d _ => ⟨rfl, rfl⟩) (fun X' c' hbk i d acc hd _ hacc _ => ?_) (fun i d acc _ h _ => (by cases h)) (fun out ho2 => ?_))
  · have hd' : ([b1, b2].map oD)[i]? = some d := hd
    rw [List.getElem?_map] at hd'
    obtain ⟨u, hu, rfl⟩ := Option.map_eq_some_iff.mp hd'
    have hm2 : u = b1 ∨ u = b2 := by simpa using List.mem_of_getElem? hu
    have su : SzO k u := by
      rcases hm2 with rfl | rfl
      · exact hb.1
      · exact hb.2
    refine we_of (x := oD (u.map (· - hm))) ?_ ⟨rfl, ?_⟩
    · cases u with
      | none => exact ev_if (et_isN (ek_s 11)) (fun _ => ev_non) (fun h => (by cases h))
      | some y => exact ev_if (et_isN (ek_s 11)) (fun h => (by cases h)) (fun _ => ev_call2 (n := n_l_offsets_ok_c2) (c_l_minus.blk hbk) 0 (ek_s 11) (ek_s 5) fun _ z => ⟨y, hm, k, _, rfl, su y rfl, zh, by omega, z⟩)
    · rw [hacc, List.take_succ, hu, List.map_append]; rfl
  have ho2' : out = [oD (b1.map (· - hm)), oD (b2.map (· - hm))] := ho2
  subst ho2'
  have s1 : ∀ {u : Option Rat}, SzO k u → SzO (k + 2 * j + 2) (u.map (th - ·)) := fun h q hq => by
    obtain ⟨a, ha, rfl⟩ := Option.map_eq_some_iff.mp hq
    exact (zt.sub (h a ha)).mono (by omega)
  have s2 : ∀ {u : Option Rat}, SzO k u → SzO (k + 2 * j + 2) (u.map (· - hm)) := fun h q hq => by
    obtain ⟨a, ha, rfl⟩ := Option.map_eq_some_iff.mp hq
    exact ((h a ha).sub zh).mono (by omega)
  refine wb_cons (ws_setO 8 (wo_of (eo_lst (ea_cons (ek_d (ev_tup (ea_cons (ek_d (ev_ix (z := oD (f2.map (th - ·))) (ek_s 6) ev_int rfl)) (ea_cons (ek_d (ev_ix (z := oD (f1.map (th - ·))) (ek_s 6) ev_int rfl)) ea_nil)))) (ea_cons (ek_d (ev_tup (ea_cons (ek_d (ev_ix (z := oD (b1.map (· - hm))) (ek_s 7) ev_int rfl)) (ea_cons (ek_d (ev_ix (z := oD (b2.map (· - hm))) (ek_s 7) ev_int rfl)) ea_nil)))) ea_nil))) ?_))
  have z0 : ∀ s ∈ [((f2.map (th - ·), f1.map (th - ·)) : Spn), (b1.map (· - hm), b2.map (· - hm))], SzS (k + 2 * j + 2) s := fun s hs => by
    simp only [List.mem_cons, List.not_mem_nil, or_false] at hs
    rcases hs with rfl | rfl
    · exact ⟨s1 hf.2, s1 hf.1⟩
    · exact ⟨s2 hb.1, s2 hb.2⟩
  refine wb_cut (fun Γ => ∃ ss : List Spn, Γ = [.w (stD (x1, x2, x3, x4)), .w (sD (f1, f2)), .w (sD (b1, b2)), .w (oS o), .d (qD th), .d (qD hm), .own (.lst [oD (f1.map (th - ·)), oD (f2.map (th - ·))]), .own (.lst [oD (b1.map (· - hm)), oD (b2.map (· - hm))]), .own (.lst (ss.map sD)), .no, .no, .no] ∧ (∀ s ∈ ss, SzS (k + 2 * j + 2) s) ∧ ss.length ≤ 3) ?_ ?_
  · cases o with
    | none => exact ws_ifE (et_notN (ek_s 3)) (fun h => (by cases h)) (fun h => wb_nil ⟨[(f2.map (th - ·), f1.map (th - ·)), (b1.map (· - hm), b2.map (· - hm))], rfl, z0, Nat.le_of_ble_eq_true rfl⟩)
    | some t =>
      have tz := hz t rfl
      refine ws_ifE (et_notN (ek_s 3)) (fun h => ?_) (fun h => (by cases h))
      refine wb_cut (fun Γ => Γ = [.w (stD (x1, x2, x3, x4)), .w (sD (f1, f2)), .w (sD (b1, b2)), .w (oS (some t)), .d (qD th), .d (qD hm), .own (.lst [oD (f1.map (th - ·)), oD (f2.map (th - ·))]), .own (.lst [oD (b1.map (· - hm)), oD (b2.map (· - hm))]), .own (.lst [sD (f2.map (th - ·), f1.map (th - ·)), sD (b1.map (· - hm), b2.map (· - hm))]), .no, .no, .no]) (ws_ifE (et_not (et_val (p := true) (ev_call1 c_l_is_span 1 (ek_s 3) fun _ z => ⟨t, _, rfl, ho t rfl, tz, by omega, z⟩))) (fun h => (by cases h)) (fun h => wb_nil rfl)) ?_
      rintro Γ rfl
      refine wb_one (ws_append 8 (we_of (ev_fix (x := sD t) 3) ⟨_, rfl, by simp, [(f2.map (th - ·), f1.map (th - ·)), (b1.map (· - hm), b2.map (· - hm)), t], rfl, fun s hs => ?_, Nat.le_of_ble_eq_true rfl⟩))
      have hs' : s ∈ [((f2.map (th - ·), f1.map (th - ·)) : Spn), (b1.map (· - hm), b2.map (· - hm))] ∨ s = t := by
        simp only [List.mem_cons, List.not_mem_nil, or_false] at hs ⊢
        rcases hs with h | h | h
        · exact .inl (.inl h)
        · exact .inl (.inr h)
        · exact .inr h
      rcases hs' with h | rfl
      · exact z0 s h
      · exact tz
  rintro Γ ⟨ss, rfl, hss, hsl⟩
  have hends : ∀ q ∈ endsQ ss, Sz (k + 2 * j + 2) q := fun q hq => by
    unfold endsQ at hq
    obtain ⟨s, hs, hq⟩ := List.mem_flatMap.mp hq
    have := hss s hs
    rcases List.mem_append.mp hq with h | h
    · exact this.1 q (by cases e : s.1 <;> rw [e] at h <;> simp at h ⊢; exact h.symm)
    · exact this.2 q (by cases e : s.2 <;> rw [e] at h <;> simp at h ⊢; exact h.symm)
  refine wb_cut (fun Γ => True) ?_ (fun Γ _ => wb_one (ws_ret (we_of ev_bl ⟨_, [], rfl, rfl, post⟩)))
  refine ws_forLP 9 (fun ds => ∃ ts : List Rat, ds = ts.map qD ∧ ∀ t ∈ ts, Sz (2 * (k + 2 * j + 2) + 10) t) (fun i Γ => ∃ u v : DL.Slot, Γ = [.w (stD (x1, x2, x3, x4)), .w (sD (f1, f2)), .w (sD (b1, b2)), .w (oS o), .d (qD th), .d (qD hm), .own (.lst [oD (f1.map (th - ·)), oD (f2.map (th - ·))]), .own (.lst [oD (b1.map (· - hm)), oD (b2.map (· - hm))]), .own (.lst (ss.map sD)), u, v, .no]) (we_frz (wo_callE c_l_probes 2 (ea_cons (ek_s 8) ea_nil) ⟨_, ss, k + 2 * j + 2, rfl, rfl, hends, by omega, by omega, fun ts t1 t2 t3 => ⟨_, rfl, _, rfl, _, rfl, ⟨ts, rfl, t1⟩, _, _, rfl⟩⟩)) ?_ (fun _ _ _ _ => trivial)
  rintro _ ⟨ts, rfl, hts⟩ i Γ d hd ⟨u, v, rfl⟩
  rw [List.getElem?_map] at hd
  obtain ⟨t, ht, rfl⟩ := Option.map_eq_some_iff.mp hd
  have st := hts t (List.mem_of_getElem? ht)
  show WB X n_l_offsets_ok c [.w (stD (x1, x2, x3, x4)), .w (sD (f1, f2)), .w (sD (b1, b2)), .w (oS o), .d (qD th), .d (qD hm), .own (.lst [oD (f1.map (th - ·)), oD (f2.map (th - ·))]), .own (.lst [oD (b1.map (· - hm)), oD (b2.map (· - hm))]), .own (.lst (ss.map sD)), .d (qD t), v, .no] _ _
  refine wb_cons (ws_set 10 (we_of (ev_and (ev_call2 c_l_in_span 3 (ek_s 1) (ek_v (ev_call2 c_l_minus 0 (ek_s 4) (ek_s 9) fun _ z => ⟨_, _, _, _, rfl, zt, st, by omega, z⟩)) fun _ z => ⟨(f1, f2), _, k, _, rfl, hf, zt.sub st, by omega, z⟩) fun _ => ev_one (ev_call2 c_l_in_span 3 (ek_s 2) (ek_v (ev_call2 c_l_plus 4 (ek_s 5) (ek_s 9) fun _ z => ⟨_, _, _, _, rfl, zh, st, by omega, z⟩)) fun _ z => ⟨(b1, b2), _, k, _, rfl, hb, zh.add st, by omega, z⟩)) ?_))
  show WB X n_l_offsets_ok c [.w (stD (x1, x2, x3, x4)), .w (sD (f1, f2)), .w (sD (b1, b2)), .w (oS o), .d (qD th), .d (qD hm), .own (.lst [oD (f1.map (th - ·)), oD (f2.map (th - ·))]), .own (.lst [oD (b1.map (· - hm)), oD (b2.map (· - hm))]), .own (.lst (ss.map sD)), .d (qD t), .d (.bl (inS (f1, f2) (th - t) && inS (b1, b2) (hm + t))), .no] _ _
  rw [← hin' t]
  cases o with
  | none =>
    refine wb_one (ws_ifE (et_neD (ek_s 10) (ek_d (ev_and (q := true) (ev_notN (ek_s 3)) fun h => (by cases h))) rfl rfl) (fun h => ?_) (fun h => wb_nil ⟨_, _, rfl⟩))
    rw [eqv_bb] at h; simp [oS, inO, DL.D.isN] at h
  | some s =>
    have sz := hz s rfl
    refine wb_one (ws_ifE (et_neD (ek_s 10) (ek_d (ev_and (ev_notN (ek_s 3)) fun _ => ev_one (ev_call2 c_l_in_span 3 (ek_s 3) (ek_s 9) fun _ z => ⟨s, t, _, _, rfl, sz, st, by omega, z⟩))) rfl rfl) (fun h => ?_) (fun h => wb_nil ⟨_, _, rfl⟩))
    rw [eqv_bb] at h
    have e : inO (some s) t = inS s t := rfl
    rw [e] at h
    simp [oS, DL.D.isN] at h


/-! common_factor -/
abbrev s_p_common_factor : Stmt := top 4
abbrev n_p_common_factor : Nm := { N := ["a", "b"], V := [0, 1], as := [0, 1], GN := [], k := 0, oi := [], lc := [0, 1], sc := none }
theorem sc_p_common_factor : FnScope n_p_common_factor.N ["a", "b"] (defScope s_p_common_factor) := ⟨rfl, rfl, rfl, by decide +kernel, rfl, by decide +kernel, by decide +kernel⟩
theorem sb_p_common_factor : ScOk (defScope s_p_common_factor) n_p_common_factor := scOk_of (by decide +kernel)
def S_p_common_factor : Sg := fun ps Post => ∃ a b : Int, ps = [.d (.int a), .d (.int b)] ∧ Post (.d (.int (Int.gcd a b : Nat))) []
theorem bd_p_common_factor {X : Cx} {c : Cc}  : ∀ ps Post, S_p_common_factor ps Post → WB X n_p_common_factor c (entry n_p_common_factor.N ps) (defBody s_p_common_factor) (fnD n_p_common_factor.oi Post) := by
  rintro ps Post ⟨a, b, rfl, post⟩
  show WB X n_p_common_factor c [.d (.int a), .d (.int b)] _ _
  refine wb_cut (fun Γ => Γ = [.d (.int (a.natAbs : Int)), .d (.int b)]) (ws_ifE (et_lt (ev_var 0) ev_int) (fun h => wb_one (ws_set 0 (we_of (ev_neg (ev_var 0)) ?_))) (fun h => wb_nil ?_)) ?_
  · have := of_decide_eq_true h
    show [_, _] = _
    rw [show ((a.natAbs : Nat) : Int) = -a by omega]
  · have := of_decide_eq_false h
    show [_, _] = _
    rw [show ((a.natAbs : Nat) : Int) = a by omega]
  rintro Γ rfl
  refine wb_cut (fun Γ => Γ = [.d (.int (a.natAbs : Int)), .d (.int (b.natAbs : Int))]) (ws_ifE (et_lt (ev_var 1) ev_int) (fun h => wb_one (ws_set 1 (we_of (ev_neg (ev_var 1)) ?_))) (fun h => wb_nil ?_)) ?_
  · have := of_decide_eq_true h
    show [_, _] = _
    rw [show ((b.natAbs : Nat) : Int) = -b by omega]
  · have := of_decide_eq_false h
    show [_, _] = _
    rw [show ((b.natAbs : Nat) : Int) = b by omega]
  rintro Γ rfl
  refine wb_cut (fun Γ => Γ = [.d (.int (Int.gcd a b : Nat)), .d (.int 0)]) (ws_while (fun m Γ => ∃ u v : Nat, m = v ∧ Γ = [.d (.int (u : Int)), .d (.int (v : Int))] ∧ Nat.gcd u v = Int.gcd a b) b.natAbs ⟨_, _, rfl, rfl, rfl⟩ ?_) ?_
  · rintro v Γ ⟨u, _, rfl, rfl, hg⟩
    refine wt_of (et_ne (ev_var 1) ev_int) ⟨fun h => ?_, fun h => ?_⟩
    · have hv : (v : Int) ≠ 0 := by simpa using h
      refine wb_one (ws_par 0 1 (wa_of (ea_cons (ek_d (ev_var 1)) (ea_cons (ek_d (ev_mod (ev_var 0) (ev_var 1) hv)) ea_nil)) ⟨_, _, rfl, ?_⟩))
      refine ⟨u % v, Nat.mod_lt _ (by omega), v, u % v, rfl, ?_, ?_⟩
      · show [_, _] = _
        rw [Int.fmod_eq_emod_of_nonneg _ (by omega)]; rfl
      · rw [← hg, Nat.gcd_comm v, ← Nat.gcd_rec, Nat.gcd_comm]
    · have hv : v = 0 := by simpa using h
      subst hv
      show _ = _
      rw [← hg]; simp
  rintro Γ rfl
  exact wb_one (ws_ret (we_of (ev_var 0) ⟨_, _, rfl, rfl, post⟩))


/-! add -/
abbrev s_p_add : Stmt := top 5
abbrev n_p_add : Nm := { N := ["a", "b", "an", "ad", "bn", "bd", "shared", "left", "top", "factor"], V := [0, 1, 2, 3, 4, 5, 6, 7, 8, 9], as := [0, 1, 2, 3, 4, 5, 6, 7, 8, 9], GN := ["common_factor"], k := 1, oi := [], lc := [0, 1, 2, 3, 4, 5, 6, 7, 8, 9], sc := none }
theorem sc_p_add : FnScope n_p_add.N ["a", "b"] (defScope s_p_add) := ⟨rfl, rfl, rfl, by decide +kernel, rfl, by decide +kernel, by decide +kernel⟩
theorem sb_p_add : ScOk (defScope s_p_add) n_p_add := scOk_of (by decide +kernel)
def S_p_add : Sg := fun ps Post => ∃ (a b : Rat) (j k : Nat), ps = [.d (qD a), .d (qD b)] ∧ Sz j a ∧ Sz k b ∧ j + k ≤ 8000 ∧ Post (.d (qD (a + b))) []
theorem bd_p_add {X : Cx} {c : Cc} (c_p_common_factor : CalF X n_p_add.k "common_factor" S_p_common_factor) : ∀ ps Post, S_p_add ps Post → WB X n_p_add c (entry n_p_add.N ps) (defBody s_p_add) (fnD n_p_add.oi Post) := by
  rintro ps Post ⟨a, b, j, k, rfl, ha, hb, hjk, post⟩
  show WB X n_p_add c [.d (qD a), .d (qD b), .no, .no, .no, .no, .no, .no, .no, .no] _ _
  have a0 : (a.den : Int) ≠ 0 := by have := den_pos' a; omega
  have b0 : (b.den : Int) ≠ 0 := by have := den_pos' b; omega
  refine wb_cons (ws_unp2 2 3 (we_of (ev_var 0) ⟨_, _, rfl, ?_⟩))
  refine wb_cons (ws_unp2 4 5 (we_of (ev_var 1) ⟨_, _, rfl, ?_⟩))
  refine wb_cut (fun Γ => Γ = [.d (qD a), .d (qD b), .d (.int a.num), .d (.int a.den), .d (.int b.num), .d (.int b.den), .no, .no, .no, .no]) (ws_ifE (EW.t (ew_and (et_eq (ev_var 3) ev_int) fun _ => ew_and1 (et_eq (ev_var 5) ev_int))) (fun h => wb_one (ws_ret (we_of (ev_tup (ea_cons (ek_d (ev_add (ev_var 2) (ev_var 4))) (ea_cons (ek_d ev_int) ea_nil))) ⟨_, _, rfl, rfl, ?_⟩))) (fun h => wb_nil rfl)) ?_
  · have ⟨h1, h2⟩ : (a.den : Int) = 1 ∧ (b.den : Int) = 1 := by simpa using h
    have d1 : a.den = 1 := by omega
    have d2 : b.den = 1 := by omega
    obtain ⟨e1, e2⟩ := add_parts1 a b (by rw [d1, d2]; rfl)
    have e : (D.tup [.int (a.num + b.num), .int 1]) = qD (a + b) := by rw [qD, e1, e2, d1, d2]; simp
    rw [e]; exact post
  rintro Γ rfl
  refine wb_cons (ws_set 6 (we_of (ev_call2 c_p_common_factor 0 (ek_d (ev_var 3)) (ek_d (ev_var 5)) (fun _ p => ⟨_, _, rfl, p⟩)) ?_))
  have hg : Int.gcd (a.den : Int) (b.den : Int) = Nat.gcd a.den b.den := rfl
  rw [hg]
  have g0 : Nat.gcd a.den b.den ≠ 0 := Nat.gcd_ne_zero_left a.den_nz
  have gle : Nat.gcd a.den b.den ≤ a.den := Nat.gcd_le_left _ a.den_pos
  refine wb_cut (fun Γ => Γ = [.d (qD a), .d (qD b), .d (.int a.num), .d (.int a.den), .d (.int b.num), .d (.int b.den), .d (.int (Nat.gcd a.den b.den : Nat)), .no, .no, .no] ∧ Nat.gcd a.den b.den ≠ 1) (ws_ifE (et_eq (ev_var 6) ev_int) (fun h => wb_one (ws_ret (we_of (ev_tup (ea_cons (ek_d (ev_add (ev_mul (ev_var 2) (ev_var 5) (ha.n.cm hb.d (by omega))) (ev_mul (ev_var 4) (ev_var 3) (hb.n.cm ha.d (by omega))))) (ea_cons (ek_d (ev_mul (ev_var 3) (ev_var 5) (ha.d.cm hb.d (by omega)))) ea_nil))) ⟨_, _, rfl, rfl, ?_⟩))) (fun h => wb_nil ⟨rfl, ?_⟩)) ?_
  · have h1 : Nat.gcd a.den b.den = 1 := by have : ((Nat.gcd a.den b.den : Nat) : Int) = 1 := by simpa using h
                                            omega
    obtain ⟨e1, e2⟩ := add_parts1 a b h1
    have e : (D.tup [.int (a.num * (b.den : Int) + b.num * (a.den : Int)), .int ((a.den : Int) * (b.den : Int))]) = qD (a + b) := by rw [qD, e1, e2]; simp
    rw [e]; exact post
  · intro h1; rw [h1] at h; simp at h
  rintro Γ ⟨rfl, h1⟩
  have gg : Bt j ((Nat.gcd a.den b.den : Nat) : Int) := ha.d.nat gle
  have gz : ((Nat.gcd a.den b.den : Nat) : Int) ≠ 0 := by omega
  refine wb_cons (ws_set 7 (we_of (ev_fdiv (ev_var 3) (ev_var 6) (gg.cd gz (by omega))) ?_))
  rw [fdiv_ediv g0]
  have bb : Bt k ((b.den : Int) / ((Nat.gcd a.den b.den : Nat) : Int)) := by rw [← Int.natCast_ediv]; exact hb.d.nat (Nat.div_le_self _ _)
  have ab : Bt j ((a.den : Int) / ((Nat.gcd a.den b.den : Nat) : Int)) := by rw [← Int.natCast_ediv]; exact ha.d.nat (Nat.div_le_self _ _)
  have tb : Bt (8 * (j + k) + 1) (a.num * ((b.den : Int) / ((Nat.gcd a.den b.den : Nat) : Int)) + b.num * ((a.den : Int) / ((Nat.gcd a.den b.den : Nat) : Int))) := ((ha.n.mul bb).mono (by omega)).add ((hb.n.mul ab).mono (by omega))
  refine wb_cons (ws_set 8 (we_of (ev_add (ev_mul (ev_var 2) (ev_fdiv (ev_var 5) (ev_var 6) (gg.cd gz (by omega))) (ha.n.cm (by rw [fdiv_ediv g0]; exact bb) (by omega))) (ev_mul (ev_var 4) (ev_var 7) (hb.n.cm ab (by omega)))) ?_))
  rw [fdiv_ediv g0]
  refine wb_cons (ws_set 9 (we_of (ev_call2 c_p_common_factor 0 (ek_d (ev_var 8)) (ek_d (ev_var 6)) (fun _ p => ⟨_, _, rfl, p⟩)) ?_))
  obtain ⟨e1, e2⟩ := add_parts a b h1
  rw [Int.natCast_ediv, Int.natCast_ediv] at e1 e2
  rw [gcd_int]
  generalize hf : Nat.gcd (a.num * ((b.den : Int) / ((Nat.gcd a.den b.den : Nat) : Int)) + b.num * ((a.den : Int) / ((Nat.gcd a.den b.den : Nat) : Int))).natAbs (Nat.gcd a.den b.den) = f at *
  have f0 : f ≠ 0 := by rw [← hf]; exact Nat.gcd_ne_zero_right g0
  have fg : f ∣ Nat.gcd a.den b.den := by rw [← hf]; exact Nat.gcd_dvd_right _ _
  have fle : f ≤ Nat.gcd a.den b.den := Nat.le_of_dvd (by omega) fg
  have fb : f ∣ b.den := Nat.dvd_trans fg (Nat.gcd_dvd_right _ _)
  have fB : Bt j (f : Int) := gg.nat fle
  have b1 : Bt k ((b.den : Int).fdiv (f : Int)) := by rw [fdiv_ediv f0, ← Int.natCast_ediv]; exact hb.d.nat (Nat.div_le_self _ _)
  refine wb_one (ws_ret (we_of (ev_tup (ea_cons (ek_d (ev_fdiv (ev_var 8) (ev_var 9) (fB.cd (by omega) (by omega)))) (ea_cons (ek_d (ev_mul (ev_var 7) (ev_fdiv (ev_var 5) (ev_var 9) (fB.cd (by omega) (by omega))) (ab.cm b1 (by omega)))) ea_nil))) ⟨_, _, rfl, rfl, ?_⟩))
  rw [fdiv_ediv f0, fdiv_ediv f0]
  rw [qD, e1, e2] at post
  have ed : ((a.den / Nat.gcd a.den b.den * b.den / f : Nat) : Int) = (a.den : Int) / ((Nat.gcd a.den b.den : Nat) : Int) * ((b.den : Int) / (f : Int)) := by
    rw [Nat.mul_div_assoc _ fb]; simp
  rw [ed] at post
  exact post


/-! shift -/
abbrev s_p_shift : Stmt := top 16
abbrev n_p_shift : Nm := { N := ["span", "by", "low", "high"], V := [0, 1, 2, 3], as := [0, 1, 2, 3], GN := ["add"], k := 2, oi := [], lc := [0, 1, 2, 3], sc := none }
theorem sc_p_shift : FnScope n_p_shift.N ["span", "by"] (defScope s_p_shift) := ⟨rfl, rfl, rfl, by decide +kernel, rfl, by decide +kernel, by decide +kernel⟩
theorem sb_p_shift : ScOk (defScope s_p_shift) n_p_shift := scOk_of (by decide +kernel)
abbrev S_p_shift : Sg := ST_shift
theorem bd_p_shift {X : Cx} {c : Cc} (c_p_add : CalF X n_p_shift.k "add" S_p_add) : ∀ ps Post, S_p_shift ps Post → WB X n_p_shift c (entry n_p_shift.N ps) (defBody s_p_shift) (fnD n_p_shift.oi Post) := by
  rintro ps Post ⟨⟨a1, a2⟩, d, j, k, rfl, ⟨ha1, ha2⟩, hd, hjk, post⟩
  show WB X n_p_shift c [.d (sD (a1, a2)), .d (qD d), .no, .no] _ _
  refine wb_cons (ws_unp2 2 3 (we_of (ev_var 0) ⟨_, _, rfl, ?_⟩))
  refine wb_cut (fun Γ => Γ = [.d (sD (a1, a2)), .d (qD d), .d (oD (a1.map (· + d))), .d (oD a2)]) (ws_ifE (et_notN (x := oD a1) (ek_s 2)) (fun h => ?_) (fun h => ?_)) ?_
  · cases a1 with
    | none => cases h
    | some x => exact wb_one (ws_set 2 (we_of (ev_call2 c_p_add 0 (ek_d (ev_var 2)) (ek_d (ev_var 1)) fun _ z => ⟨x, d, j, k, rfl, ha1 x rfl, hd, by omega, z⟩) rfl))
  · cases a1 with
    | some x => cases h
    | none => exact wb_nil rfl
  rintro Γ rfl
  refine wb_cut (fun Γ => Γ = [.d (sD (a1, a2)), .d (qD d), .d (oD (a1.map (· + d))), .d (oD (a2.map (· + d)))]) (ws_ifE (et_notN (x := oD a2) (ek_s 3)) (fun h => ?_) (fun h => ?_)) ?_
  · cases a2 with
    | none => cases h
    | some x => exact wb_one (ws_set 3 (we_of (ev_call2 c_p_add 0 (ek_d (ev_var 3)) (ek_d (ev_var 1)) fun _ z => ⟨x, d, j, k, rfl, ha2 x rfl, hd, by omega, z⟩) rfl))
  · cases a2 with
    | some x => cases h
    | none => exact wb_nil rfl
  rintro Γ rfl
  exact wb_one (ws_ret (we_of (ev_tup (ea_cons (ek_d (ev_var 2)) (ea_cons (ek_d (ev_var 3)) ea_nil))) ⟨_, [], rfl, rfl, post⟩))


/-! negate -/
abbrev s_p_negate : Stmt := top 6
abbrev n_p_negate : Nm := { N := ["a"], V := [0], as := [0], GN := [], k := 0, oi := [], lc := [0], sc := none }
theorem sc_p_negate : FnScope n_p_negate.N ["a"] (defScope s_p_negate) := ⟨rfl, rfl, rfl, by decide +kernel, rfl, by decide +kernel, by decide +kernel⟩
theorem sb_p_negate : ScOk (defScope s_p_negate) n_p_negate := scOk_of (by decide +kernel)
def S_p_negate : Sg := fun ps Post => ∃ a : Rat, ps = [.d (qD a)] ∧ Post (.d (qD (-a))) []
theorem bd_p_negate {X : Cx} {c : Cc}  : ∀ ps Post, S_p_negate ps Post → WB X n_p_negate c (entry n_p_negate.N ps) (defBody s_p_negate) (fnD n_p_negate.oi Post) := by
  rintro ps Post ⟨a, rfl, post⟩
  show WB X n_p_negate c [.d (qD a)] _ _
  exact wb_one (ws_ret (we_of (ev_tup (ea_cons (ek_d (ev_neg (ev_ixt (ev_var 0) ev_int))) (ea_cons (ek_d (ev_ixt (ev_var 0) ev_int)) ea_nil))) ⟨_, _, rfl, rfl, post⟩))


/-! mirrored -/
abbrev s_p_mirrored : Stmt := top 21
abbrev n_p_mirrored : Nm := { N := ["span", "low", "high"], V := [0, 1, 2], as := [0, 1, 2], GN := ["negate"], k := 1, oi := [], lc := [0, 1, 2], sc := none }
theorem sc_p_mirrored : FnScope n_p_mirrored.N ["span"] (defScope s_p_mirrored) := ⟨rfl, rfl, rfl, by decide +kernel, rfl, by decide +kernel, by decide +kernel⟩
theorem sb_p_mirrored : ScOk (defScope s_p_mirrored) n_p_mirrored := scOk_of (by decide +kernel)
abbrev S_p_mirrored : Sg := ST_mirrored
theorem bd_p_mirrored {X : Cx} {c : Cc} (c_p_negate : CalF X n_p_mirrored.k "negate" S_p_negate) : ∀ ps Post, S_p_mirrored ps Post → WB X n_p_mirrored c (entry n_p_mirrored.N ps) (defBody s_p_mirrored) (fnD n_p_mirrored.oi Post) := by
  rintro ps Post ⟨⟨a1, a2⟩, rfl, post⟩
  show WB X n_p_mirrored c [.d (sD (a1, a2)), .no, .no] _ _
  refine wb_cons (ws_unp2 1 2 (we_of (ev_var 0) ⟨_, _, rfl, ?_⟩))
  refine wb_one (ws_ret (we_of (x := sD (mirQ (a1, a2))) (ev_tup (ea_cons (ek_d (x := oD (a2.map (- ·))) ?_) (ea_cons (ek_d (x := oD (a1.map (- ·))) ?_) ea_nil))) ⟨_, [], rfl, rfl, post⟩))
  · cases a2 with
    | none => exact ev_if (et_isN (ek_s 2)) (fun _ => ev_non) (fun h => (by cases h))
    | some x => exact ev_if (et_isN (ek_s 2)) (fun h => (by cases h)) (fun _ => ev_call1 c_p_negate 0 (ek_d (ev_var 2)) fun _ z => ⟨x, rfl, z⟩)
  · cases a1 with
    | none => exact ev_if (et_isN (ek_s 1)) (fun _ => ev_non) (fun h => (by cases h))
    | some x => exact ev_if (et_isN (ek_s 1)) (fun h => (by cases h)) (fun _ => ev_call1 c_p_negate 0 (ek_d (ev_var 1)) fun _ z => ⟨x, rfl, z⟩)


/-! subtract -/
abbrev s_p_subtract : Stmt := top 7
abbrev n_p_subtract : Nm := { N := ["a", "b"], V := [0, 1], as := [0, 1], GN := ["add", "negate"], k := 2, oi := [], lc := [0, 1], sc := none }
theorem sc_p_subtract : FnScope n_p_subtract.N ["a", "b"] (defScope s_p_subtract) := ⟨rfl, rfl, rfl, by decide +kernel, rfl, by decide +kernel, by decide +kernel⟩
theorem sb_p_subtract : ScOk (defScope s_p_subtract) n_p_subtract := scOk_of (by decide +kernel)
def S_p_subtract : Sg := fun ps Post => ∃ (a b : Rat) (j k : Nat), ps = [.d (qD a), .d (qD b)] ∧ Sz j a ∧ Sz k b ∧ j + k ≤ 8000 ∧ Post (.d (qD (a - b))) []
theorem bd_p_subtract {X : Cx} {c : Cc} (c_p_add : CalF X n_p_subtract.k "add" S_p_add) (c_p_negate : CalF X n_p_subtract.k "negate" S_p_negate) : ∀ ps Post, S_p_subtract ps Post → WB X n_p_subtract c (entry n_p_subtract.N ps) (defBody s_p_subtract) (fnD n_p_subtract.oi Post) := by
  rintro ps Post ⟨a, b, j, k, rfl, ha, hb, hjk, post⟩
  show WB X n_p_subtract c [.d (qD a), .d (qD b)] _ _
  rw [Rat.sub_eq_add_neg] at post
  exact wb_one (ws_ret (we_of (ev_call2 c_p_add 0 (ek_d (ev_var 0)) (ek_d (ev_call1 c_p_negate 1 (ek_d (ev_var 1)) (fun _ p => ⟨_, rfl, p⟩))) (fun _ p => ⟨_, _, _, _, rfl, ha, hb.neg, hjk, p⟩)) ⟨_, _, rfl, rfl, post⟩))


/-! compare -/
abbrev s_p_compare : Stmt := top 10
abbrev n_p_compare : Nm := { N := ["a", "b", "left", "right"], V := [0, 1, 2, 3], as := [0, 1, 2, 3], GN := [], k := 0, oi := [], lc := [0, 1, 2, 3], sc := none }
theorem sc_p_compare : FnScope n_p_compare.N ["a", "b"] (defScope s_p_compare) := ⟨rfl, rfl, rfl, by decide +kernel, rfl, by decide +kernel, by decide +kernel⟩
theorem sb_p_compare : ScOk (defScope s_p_compare) n_p_compare := scOk_of (by decide +kernel)
def S_p_compare : Sg := fun ps Post => ∃ (a b : Rat) (j k : Nat), ps = [.d (qD a), .d (qD b)] ∧ Sz j a ∧ Sz k b ∧ j + k ≤ 8000 ∧ Post (.d (.int (cmpQ a b))) []
theorem bd_p_compare {X : Cx} {c : Cc}  : ∀ ps Post, S_p_compare ps Post → WB X n_p_compare c (entry n_p_compare.N ps) (defBody s_p_compare) (fnD n_p_compare.oi Post) := by
  rintro ps Post ⟨a, b, j, k, rfl, ha, hb, hjk, post⟩
  show WB X n_p_compare c [.d (qD a), .d (qD b), .no, .no] _ _
  refine wb_cut (fun Γ => ∃ l r : Int, Γ = [.d (qD a), .d (qD b), .d (.int l), .d (.int r)] ∧ (l < r ↔ a < b) ∧ (r < l ↔ b < a)) (ws_ifE (et_eq (ev_ixt (ev_var 0) ev_int) (ev_ixt (ev_var 1) ev_int)) (fun h => wb_one (ws_par 2 3 (wa_of (ea_cons (ek_d (ev_ixt (ev_var 0) ev_int)) (ea_cons (ek_d (ev_ixt (ev_var 1) ev_int)) ea_nil)) ⟨_, _, rfl, _, _, rfl, ?_⟩)))
    (fun h => wb_one (ws_par 2 3 (wa_of (ea_cons (ek_d (ev_mul (ev_ixt (ev_var 0) ev_int) (ev_ixt (ev_var 1) ev_int) (ha.n.cm hb.d (by omega)))) (ea_cons (ek_d (ev_mul (ev_ixt (ev_var 1) ev_int) (ev_ixt (ev_var 0) ev_int) (hb.n.cm ha.d (by omega)))) ea_nil)) ⟨_, _, rfl, _, _, rfl, ?_⟩)))) ?_
  · have h1 : (a.den : Int) = (b.den : Int) := by simpa using h
    have h2 : a.den = b.den := by omega
    exact ⟨(lt_same h2).symm, (lt_same h2.symm).symm⟩
  · exact ⟨lt_num.symm, lt_num.symm⟩
  rintro Γ ⟨l, r, rfl, h1, h2⟩
  refine wb_cut (fun Γ => Γ = [.d (qD a), .d (qD b), .d (.int l), .d (.int r)] ∧ ¬ a < b) (ws_ifE (et_lt (ev_var 2) (ev_var 3)) (fun h => wb_one (ws_ret (we_of (ev_neg ev_int) ⟨_, _, rfl, rfl, ?_⟩))) (fun h => wb_nil ⟨rfl, fun z => ?_⟩)) ?_
  · have h3 : a < b := h1.mp (of_decide_eq_true h)
    have e : cmpQ a b = -1 := by unfold cmpQ; rw [if_pos h3]
    rw [← e]; exact post
  · exact absurd (h1.mpr z) (of_decide_eq_false h)
  rintro Γ ⟨rfl, h3⟩
  refine wb_cut (fun Γ => Γ = [.d (qD a), .d (qD b), .d (.int l), .d (.int r)] ∧ ¬ b < a) (ws_ifE (et_gt (ev_var 2) (ev_var 3)) (fun h => wb_one (ws_ret (we_of ev_int ⟨_, _, rfl, rfl, ?_⟩))) (fun h => wb_nil ⟨rfl, fun z => ?_⟩)) ?_
  · have h4 : b < a := h2.mp (of_decide_eq_true h)
    have e : cmpQ a b = 1 := by unfold cmpQ; rw [if_neg h3, if_pos h4]
    rw [← e]; exact post
  · exact absurd (h2.mpr z) (of_decide_eq_false h)
  rintro Γ ⟨rfl, h4⟩
  refine wb_one (ws_ret (we_of ev_int ⟨_, _, rfl, rfl, ?_⟩))
  have e : cmpQ a b = 0 := by unfold cmpQ; rw [if_neg h3, if_neg h4]
  rw [← e]; exact post


/-! larger -/
abbrev s_p_larger : Stmt := top 12
abbrev n_p_larger : Nm := { N := ["a", "b"], V := [0, 1], as := [0, 1], GN := ["compare"], k := 1, oi := [], lc := [0, 1], sc := none }
theorem sc_p_larger : FnScope n_p_larger.N ["a", "b"] (defScope s_p_larger) := ⟨rfl, rfl, rfl, by decide +kernel, rfl, by decide +kernel, by decide +kernel⟩
theorem sb_p_larger : ScOk (defScope s_p_larger) n_p_larger := scOk_of (by decide +kernel)
abbrev S_p_larger : Sg := ST_cmp2 maxQ
theorem bd_p_larger {X : Cx} {c : Cc} (c_p_compare : CalF X n_p_larger.k "compare" S_p_compare) : ∀ ps Post, S_p_larger ps Post → WB X n_p_larger c (entry n_p_larger.N ps) (defBody s_p_larger) (fnD n_p_larger.oi Post) := by
  rintro ps Post ⟨a, b, j, k, rfl, ha, hb, hjk, post⟩
  show WB X n_p_larger c [.d (qD a), .d (qD b)] _ _
  refine wb_one (ws_ret (we_if (wt_of (et_lt (ev_call2 c_p_compare 0 (ek_d (ev_var 0)) (ek_d (ev_var 1)) fun _ z => ⟨_, _, _, _, rfl, ha, hb, hjk, z⟩) ev_int) ⟨fun h => we_of (ev_var 1) ⟨_, [], rfl, rfl, ?_⟩, fun h => we_of (ev_var 0) ⟨_, [], rfl, rfl, ?_⟩⟩)))
  · rw [cmp_lt] at h
    unfold maxQ at post
    rwa [if_pos (of_decide_eq_true h)] at post
  · rw [cmp_lt] at h
    unfold maxQ at post
    rwa [if_neg (of_decide_eq_false h)] at post


/-! smaller -/
abbrev s_p_smaller : Stmt := top 11
abbrev n_p_smaller : Nm := { N := ["a", "b"], V := [0, 1], as := [0, 1], GN := ["compare"], k := 1, oi := [], lc := [0, 1], sc := none }
theorem sc_p_smaller : FnScope n_p_smaller.N ["a", "b"] (defScope s_p_smaller) := ⟨rfl, rfl, rfl, by decide +kernel, rfl, by decide +kernel, by decide +kernel⟩
theorem sb_p_smaller : ScOk (defScope s_p_smaller) n_p_smaller := scOk_of (by decide +kernel)
abbrev S_p_smaller : Sg := ST_cmp2 minQ
theorem bd_p_smaller {X : Cx} {c : Cc} (c_p_compare : CalF X n_p_smaller.k "compare" S_p_compare) : ∀ ps Post, S_p_smaller ps Post → WB X n_p_smaller c (entry n_p_smaller.N ps) (defBody s_p_smaller) (fnD n_p_smaller.oi Post) := by
  rintro ps Post ⟨a, b, j, k, rfl, ha, hb, hjk, post⟩
  show WB X n_p_smaller c [.d (qD a), .d (qD b)] _ _
  refine wb_one (ws_ret (we_if (wt_of (et_gt (ev_call2 c_p_compare 0 (ek_d (ev_var 0)) (ek_d (ev_var 1)) fun _ z => ⟨_, _, _, _, rfl, ha, hb, hjk, z⟩) ev_int) ⟨fun h => we_of (ev_var 1) ⟨_, [], rfl, rfl, ?_⟩, fun h => we_of (ev_var 0) ⟨_, [], rfl, rfl, ?_⟩⟩)))
  · rw [cmp_gt] at h
    unfold minQ at post
    rwa [if_pos (of_decide_eq_true h)] at post
  · rw [cmp_gt] at h
    unfold minQ at post
    rwa [if_neg (of_decide_eq_false h)] at post


/-! ends_cross -/
abbrev s_p_ends_cross : Stmt := top 14
abbrev n_p_ends_cross : Nm := { N := ["low", "high"], V := [0, 1], as := [0, 1], GN := ["compare"], k := 1, oi := [], lc := [0, 1], sc := none }
theorem sc_p_ends_cross : FnScope n_p_ends_cross.N ["low", "high"] (defScope s_p_ends_cross) := ⟨rfl, rfl, rfl, by decide +kernel, rfl, by decide +kernel, by decide +kernel⟩
theorem sb_p_ends_cross : ScOk (defScope s_p_ends_cross) n_p_ends_cross := scOk_of (by decide +kernel)
abbrev S_p_ends_cross : Sg := ST_cross
theorem bd_p_ends_cross {X : Cx} {c : Cc} (c_p_compare : CalF X n_p_ends_cross.k "compare" S_p_compare) : ∀ ps Post, S_p_ends_cross ps Post → WB X n_p_ends_cross c (entry n_p_ends_cross.N ps) (defBody s_p_ends_cross) (fnD n_p_ends_cross.oi Post) := by
  rintro ps Post ⟨a, b, k, rfl, ha, hb, hk, post⟩
  show WB X n_p_ends_cross c [.d (oD a), .d (oD b)] _ _
  cases a with
  | none => exact wb_cut (fun _ => False) (ws_ifE (EW.t (ew_or (q := true) (et_isN (ek_s 0)) fun h => (by cases h))) (fun h => wb_one (ws_ret (we_of ev_bl ⟨_, [], rfl, rfl, post⟩))) (fun h => (by cases h))) (fun _ h => h.elim)
  | some x =>
    cases b with
    | none => exact wb_cut (fun _ => False) (ws_ifE (EW.t (ew_or (et_isN (ek_s 0)) fun h => ew_or1 (et_isN (ek_s 1)))) (fun h => wb_one (ws_ret (we_of ev_bl ⟨_, [], rfl, rfl, post⟩))) (fun h => (by cases h))) (fun _ h => h.elim)
    | some y =>
      refine wb_cut (fun Γ => Γ = [.d (oD (some x)), .d (oD (some y))]) (ws_ifE (EW.t (ew_or (et_isN (ek_s 0)) fun h => ew_or1 (et_isN (ek_s 1)))) (fun h => (by cases h)) (fun h => wb_nil rfl)) ?_
      rintro Γ rfl
      refine wb_one (ws_ret (we_of (ev_gt (ev_call2 c_p_compare 0 (ek_d (ev_var 0)) (ek_d (ev_var 1)) fun _ z => ⟨_, _, _, _, rfl, ha x rfl, hb y rfl, by omega, z⟩) ev_int) ⟨_, [], rfl, rfl, ?_⟩))
      rw [cmp_gt]
      exact post


/-! meet -/
abbrev s_p_meet : Stmt := top 15
abbrev n_p_meet : Nm := { N := ["a", "b", "low", "high"], V := [0, 1, 2, 3], as := [0, 1, 2, 3], GN := ["larger", "smaller", "ends_cross"], k := 2, oi := [], lc := [0, 1, 2, 3], sc := none }
theorem sc_p_meet : FnScope n_p_meet.N ["a", "b"] (defScope s_p_meet) := ⟨rfl, rfl, rfl, by decide +kernel, rfl, by decide +kernel, by decide +kernel⟩
theorem sb_p_meet : ScOk (defScope s_p_meet) n_p_meet := scOk_of (by decide +kernel)
abbrev S_p_meet : Sg := ST_meet
theorem bd_p_meet {X : Cx} {c : Cc} (c_p_larger : CalF X n_p_meet.k "larger" S_p_larger) (c_p_smaller : CalF X n_p_meet.k "smaller" S_p_smaller) (c_p_ends_cross : CalF X n_p_meet.k "ends_cross" S_p_ends_cross) : ∀ ps Post, S_p_meet ps Post → WB X n_p_meet c (entry n_p_meet.N ps) (defBody s_p_meet) (fnD n_p_meet.oi Post) := by
  rintro ps Post ⟨⟨a1, a2⟩, ⟨b1, b2⟩, k, rfl, ha, hb, hk, post⟩
  obtain ⟨ha1, ha2⟩ := ha
  obtain ⟨hb1, hb2⟩ := hb
  show WB X n_p_meet c [.d (sD (a1, a2)), .d (sD (b1, b2)), .no, .no] _ _
  refine wb_cons (ws_unp2 2 3 (we_of (ev_var 0) ⟨_, _, rfl, ?_⟩))
  refine wb_cut (fun Γ => Γ = [.d (sD (a1, a2)), .d (sD (b1, b2)), .d (oD (meetLo a1 b1)), .d (oD a2)]) (ws_ifE (et_isN (x := oD a1) (ek_s 2)) (fun h => ?_) (fun h => ?_)) ?_
  · cases a1 with
    | some x => cases h
    | none => exact wb_one (ws_set 2 (we_of (ev_ixt (ev_var 1) ev_int) rfl))
  · cases a1 with
    | none => cases h
    | some x =>
      cases b1 with
      | none => exact wb_one (ws_ifE (et_notN (ek_d (ev_ixt (z := .non) (ev_var 1) ev_int))) (fun h => (by cases h)) (fun h => wb_nil rfl))
      | some y => exact wb_one (ws_ifE (et_notN (ek_d (ev_ixt (z := qD y) (ev_var 1) ev_int))) (fun h => wb_one (ws_set 2 (we_of (ev_call2 c_p_larger 0 (ek_d (ev_var 2)) (ek_d (ev_ixt (z := qD y) (ev_var 1) ev_int)) fun _ z => ⟨x, y, k, k, rfl, ha1 x rfl, hb1 y rfl, by omega, z⟩) rfl))) (fun h => (by cases h)))
  rintro Γ rfl
  refine wb_cut (fun Γ => Γ = [.d (sD (a1, a2)), .d (sD (b1, b2)), .d (oD (meetLo a1 b1)), .d (oD (meetHi a2 b2))]) (ws_ifE (et_isN (x := oD a2) (ek_s 3)) (fun h => ?_) (fun h => ?_)) ?_
  · cases a2 with
    | some x => cases h
    | none => exact wb_one (ws_set 3 (we_of (ev_ixt (ev_var 1) ev_int) rfl))
  · cases a2 with
    | none => cases h
    | some x =>
      cases b2 with
      | none => exact wb_one (ws_ifE (et_notN (ek_d (ev_ixt (z := .non) (ev_var 1) ev_int))) (fun h => (by cases h)) (fun h => wb_nil rfl))
      | some y => exact wb_one (ws_ifE (et_notN (ek_d (ev_ixt (z := qD y) (ev_var 1) ev_int))) (fun h => wb_one (ws_set 3 (we_of (ev_call2 c_p_smaller 1 (ek_d (ev_var 3)) (ek_d (ev_ixt (z := qD y) (ev_var 1) ev_int)) fun _ z => ⟨x, y, k, k, rfl, ha2 x rfl, hb2 y rfl, by omega, z⟩) rfl))) (fun h => (by cases h)))
  rintro Γ rfl
  refine wb_cut (fun Γ => Γ = [.d (sD (a1, a2)), .d (sD (b1, b2)), .d (oD (meetLo a1 b1)), .d (oD (meetHi a2 b2))] ∧ crossB (meetLo a1 b1) (meetHi a2 b2) = false) (ws_ifE (et_val (ev_call2 c_p_ends_cross 2 (ek_d (ev_var 2)) (ek_d (ev_var 3)) fun _ z => ⟨_, _, k, rfl, ha1.meetLo hb1, ha2.meetHi hb2, hk, z⟩)) (fun h => wb_one (ws_ret (we_of ev_non ⟨_, [], rfl, rfl, ?_⟩))) (fun h => wb_nil ⟨rfl, h⟩)) ?_
  · unfold meetQ at post
    rwa [if_pos h] at post
  rintro Γ ⟨rfl, h⟩
  refine wb_one (ws_ret (we_of (ev_tup (ea_cons (ek_d (ev_var 2)) (ea_cons (ek_d (ev_var 3)) ea_nil))) ⟨_, [], rfl, rfl, ?_⟩))
  unfold meetQ at post
  rwa [if_neg (by rw [h]; simp)] at post


/-! offset_span -/
abbrev s_p_offset_span : Stmt := top 22
abbrev n_p_offset_span : Nm := { N := ["stamps", "forth", "back", "a", "b", "c", "d", "by_request", "by_reply"], V := [0, 1, 2, 3, 4, 5, 6, 7, 8], as := [0, 1, 2, 3, 4, 5, 6, 7, 8], GN := ["shift", "mirrored", "subtract", "meet"], k := 3, oi := [], lc := [0, 1, 2, 3, 4, 5, 6, 7, 8], sc := none }
theorem sc_p_offset_span : FnScope n_p_offset_span.N ["stamps", "forth", "back"] (defScope s_p_offset_span) := ⟨rfl, rfl, rfl, by decide +kernel, rfl, by decide +kernel, by decide +kernel⟩
theorem sb_p_offset_span : ScOk (defScope s_p_offset_span) n_p_offset_span := scOk_of (by decide +kernel)
abbrev S_p_offset_span : Sg := ST_offspan
theorem bd_p_offset_span {X : Cx} {c : Cc} (c_p_shift : CalF X n_p_offset_span.k "shift" S_p_shift) (c_p_mirrored : CalF X n_p_offset_span.k "mirrored" S_p_mirrored) (c_p_subtract : CalF X n_p_offset_span.k "subtract" S_p_subtract) (c_p_meet : CalF X n_p_offset_span.k "meet" S_p_meet) : ∀ ps Post, S_p_offset_span ps Post → WB X n_p_offset_span c (entry n_p_offset_span.N ps) (defBody s_p_offset_span) (fnD n_p_offset_span.oi Post) := by
  rintro ps Post ⟨⟨x1, x2, x3, x4⟩, f, b, j, k, rfl, ⟨h1, h2, h3, h4⟩, hf, hb, hs, post⟩
  show WB X n_p_offset_span c [.d (stD (x1, x2, x3, x4)), .d (sD f), .d (sD b), .no, .no, .no, .no, .no, .no] _ _
  refine wb_cons (ws_unp4 3 4 5 6 (we_of (ev_var 0) ⟨_, _, _, _, rfl, ?_⟩))
  have d1 := h2.sub h1
  have d2 := h3.sub h4
  have m1 : SzS k (mirQ f) := ⟨hf.2.map_neg, hf.1.map_neg⟩
  refine wb_cons (ws_set 7 (we_of (ev_call2 c_p_shift 0 (ek_d (ev_call1 c_p_mirrored 1 (ek_d (ev_var 1)) fun _ z => ⟨f, rfl, z⟩)) (ek_d (ev_call2 c_p_subtract 2 (ek_d (ev_var 4)) (ek_d (ev_var 3)) fun _ z => ⟨x2, x1, j, j, rfl, h2, h1, by omega, z⟩)) fun _ z => ⟨mirQ f, x2 - x1, k, j + j + 1, rfl, m1, d1, by omega, z⟩) ?_))
  refine wb_cons (ws_set 8 (we_of (ev_call2 c_p_shift 0 (ek_d (ev_var 2)) (ek_d (ev_call2 c_p_subtract 2 (ek_d (ev_var 5)) (ek_d (ev_var 6)) fun _ z => ⟨x3, x4, j, j, rfl, h3, h4, by omega, z⟩)) fun _ z => ⟨b, x3 - x4, k, j + j + 1, rfl, hb, d2, by omega, z⟩) ?_))
  exact wb_one (ws_ret (we_of (ev_call2 c_p_meet 3 (ek_d (ev_var 7)) (ek_d (ev_var 8)) fun _ z => ⟨shQ (mirQ f) (x2 - x1), shQ b (x3 - x4), k + 2 * j + 2, rfl, ⟨m1.1.map_add d1 (by omega), m1.2.map_add d1 (by omega)⟩, ⟨hb.1.map_add d2 (by omega), hb.2.map_add d2 (by omega)⟩, by omega, z⟩) ⟨_, [], rfl, rfl, post⟩))


/-! multiply -/
abbrev s_p_multiply : Stmt := top 8
abbrev n_p_multiply : Nm := { N := ["a", "b", "an", "ad", "bn", "bd", "one", "two"], V := [0, 1, 2, 3, 4, 5, 6, 7], as := [0, 1, 2, 3, 4, 5, 6, 7], GN := ["common_factor"], k := 1, oi := [], lc := [0, 1, 2, 3, 4, 5, 6, 7], sc := none }
theorem sc_p_multiply : FnScope n_p_multiply.N ["a", "b"] (defScope s_p_multiply) := ⟨rfl, rfl, rfl, by decide +kernel, rfl, by decide +kernel, by decide +kernel⟩
theorem sb_p_multiply : ScOk (defScope s_p_multiply) n_p_multiply := scOk_of (by decide +kernel)
def S_p_multiply : Sg := fun ps Post => ∃ (a b : Rat) (j k : Nat), ps = [.d (qD a), .d (qD b)] ∧ Sz j a ∧ Sz k b ∧ j + k ≤ 8000 ∧ Post (.d (qD (a * b))) []
theorem bd_p_multiply {X : Cx} {c : Cc} (c_p_common_factor : CalF X n_p_multiply.k "common_factor" S_p_common_factor) : ∀ ps Post, S_p_multiply ps Post → WB X n_p_multiply c (entry n_p_multiply.N ps) (defBody s_p_multiply) (fnD n_p_multiply.oi Post) := by
  rintro ps Post ⟨a, b, j, k, rfl, ha, hb, hjk, post⟩
  show WB X n_p_multiply c [.d (qD a), .d (qD b), .no, .no, .no, .no, .no, .no] _ _
  obtain ⟨e1, e2⟩ := mul_parts a b
  refine wb_cons (ws_unp2 2 3 (we_of (ev_var 0) ⟨_, _, rfl, ?_⟩))
  refine wb_cons (ws_unp2 4 5 (we_of (ev_var 1) ⟨_, _, rfl, ?_⟩))
  refine wb_cut (fun Γ => Γ = [.d (qD a), .d (qD b), .d (.int a.num), .d (.int a.den), .d (.int b.num), .d (.int b.den), .no, .no]) (ws_ifE (EW.t (ew_and (et_eq (ev_var 3) ev_int) fun _ => ew_and1 (et_eq (ev_var 5) ev_int))) (fun h => wb_one (ws_ret (we_of (ev_tup (ea_cons (ek_d (ev_mul (ev_var 2) (ev_var 4) (ha.n.cm hb.n (by omega)))) (ea_cons (ek_d ev_int) ea_nil))) ⟨_, _, rfl, rfl, ?_⟩))) (fun h => wb_nil rfl)) ?_
  · have ⟨h1, h2⟩ : (a.den : Int) = 1 ∧ (b.den : Int) = 1 := by simpa using h
    have d1 : a.den = 1 := by omega
    have d2 : b.den = 1 := by omega
    have e : (D.tup [.int (a.num * b.num), .int 1]) = qD (a * b) := by rw [qD, e1, e2, d1, d2]; simp
    rw [e]; exact post
  rintro Γ rfl
  have x0 : Nat.gcd a.num.natAbs b.den ≠ 0 := Nat.gcd_ne_zero_right b.den_nz
  have y0 : Nat.gcd b.num.natAbs a.den ≠ 0 := Nat.gcd_ne_zero_right a.den_nz
  have x1 : Bt k ((Nat.gcd a.num.natAbs b.den : Nat) : Int) := hb.d.nat (Nat.gcd_le_right _ b.den_pos)
  have y1 : Bt j ((Nat.gcd b.num.natAbs a.den : Nat) : Int) := ha.d.nat (Nat.gcd_le_right _ a.den_pos)
  refine wb_cons (ws_set 6 (we_of (ev_call2 c_p_common_factor 0 (ek_d (ev_var 2)) (ek_d (ev_var 5)) (fun _ p => ⟨_, _, rfl, p⟩)) ?_))
  rw [gcd_int]
  refine wb_cons (ws_set 7 (we_of (ev_call2 c_p_common_factor 0 (ek_d (ev_var 4)) (ek_d (ev_var 3)) (fun _ p => ⟨_, _, rfl, p⟩)) ?_))
  rw [gcd_int]
  have le : ∀ (i : Int) (m : Nat), (i / (m : Int)).natAbs ≤ i.natAbs := fun i m => Int.natAbs_ediv_le_natAbs i m
  refine wb_one (ws_ret (we_of (ev_tup (ea_cons (ek_d (ev_mul (ev_fdiv (ev_var 2) (ev_var 6) (x1.cd (by omega) (by omega))) (ev_fdiv (ev_var 4) (ev_var 7) (y1.cd (by omega) (by omega))) (by
    rw [fdiv_ediv x0, fdiv_ediv y0]; exact (ha.n.le (le _ _)).cm (hb.n.le (le _ _)) (by omega)))) (ea_cons (ek_d (ev_mul (ev_fdiv (ev_var 3) (ev_var 7) (y1.cd (by omega) (by omega))) (ev_fdiv (ev_var 5) (ev_var 6) (x1.cd (by omega) (by omega))) (by
    rw [fdiv_ediv x0, fdiv_ediv y0]; exact (ha.d.le (le _ _)).cm (hb.d.le (le _ _)) (by omega)))) ea_nil))) ⟨_, _, rfl, rfl, ?_⟩))
  rw [fdiv_ediv x0, fdiv_ediv y0, fdiv_ediv x0, fdiv_ediv y0]
  rw [qD, e1, e2] at post
  have ed : ((a.den / Nat.gcd b.num.natAbs a.den * (b.den / Nat.gcd a.num.natAbs b.den) : Nat) : Int) = (a.den : Int) / ((Nat.gcd b.num.natAbs a.den : Nat) : Int) * ((b.den : Int) / ((Nat.gcd a.num.natAbs b.den : Nat) : Int)) := by simp
  rw [ed] at post
  exact post


/-! divide -/
abbrev s_p_divide : Stmt := top 9
abbrev n_p_divide : Nm := { N := ["a", "b", "bn", "bd"], V := [0, 1, 2, 3], as := [0, 1, 2, 3], GN := ["ZeroDivisor", "multiply"], k := 2, oi := [], lc := [0, 1, 2, 3], sc := none }
theorem sc_p_divide : FnScope n_p_divide.N ["a", "b"] (defScope s_p_divide) := ⟨rfl, rfl, rfl, by decide +kernel, rfl, by decide +kernel, by decide +kernel⟩
theorem sb_p_divide : ScOk (defScope s_p_divide) n_p_divide := scOk_of (by decide +kernel)
abbrev S_p_divide : Sg := ST_div
theorem bd_p_divide {X : Cx} {c : Cc} /- ? ZeroDivisor -/ (c_p_multiply : CalF X n_p_divide.k "multiply" S_p_multiply) : ∀ ps Post, S_p_divide ps Post → WB X n_p_divide c (entry n_p_divide.N ps) (defBody s_p_divide) (fnD n_p_divide.oi Post) := by
  rintro ps Post ⟨a, b, j, k, rfl, h0, ha, hb, hjk, post⟩
  show WB X n_p_divide c [.d (qD a), .d (qD b), .no, .no] _ _
  have n0 : b.num ≠ 0 := fun z => h0 (Rat.num_eq_zero.mp z)
  refine wb_cons (ws_unp2 2 3 (we_of (ev_var 1) ⟨_, _, rfl, ?_⟩))
  refine wb_cut (fun Γ => Γ = [.d (qD a), .d (qD b), .d (.int b.num), .d (.int (b.den : Int))]) (ws_ifE (et_eq (ev_var 2) ev_int) (fun h => absurd (of_decide_eq_true h) n0) (fun h => wb_nil rfl)) ?_
  rintro Γ rfl
  refine wb_cut (fun Γ => Γ = [.d (qD a), .d (qD b), .d (.int b.num), .d (.int (b.den : Int))] ∧ 0 < b.num) (ws_ifE (et_lt (ev_var 2) ev_int) (fun h => ?_) (fun h => wb_nil ⟨rfl, ?_⟩)) ?_
  · have h' : b.num < 0 := of_decide_eq_true h
    exact wb_one (ws_ret (we_of (ev_call2 c_p_multiply 1 (ek_d (ev_var 0)) (ek_d (ev_is (ev_tup2 (ev_neg (ev_var 3)) (ev_neg (ev_var 2))) (inv_neg h'))) fun _ z => ⟨a, b⁻¹, j, k, rfl, ha, hb, by omega, z⟩) ⟨_, [], rfl, rfl, by rw [div_eq]; exact post⟩))
  · have h' : ¬ b.num < 0 := of_decide_eq_false h
    omega
  rintro Γ ⟨rfl, h'⟩
  exact wb_one (ws_ret (we_of (ev_call2 c_p_multiply 1 (ek_d (ev_var 0)) (ek_d (ev_is (ev_tup2 (ev_var 3) (ev_var 2)) (inv_pos h'))) fun _ z => ⟨a, b⁻¹, j, k, rfl, ha, hb, by omega, z⟩) ⟨_, [], rfl, rfl, by rw [div_eq]; exact post⟩))


/-! plain_offset -/
abbrev s_p_plain_offset : Stmt := top 20
abbrev n_p_plain_offset : Nm := { N := ["stamps", "a", "b", "c", "d"], V := [0, 1, 2, 3, 4], as := [0, 1, 2, 3, 4], GN := ["divide", "add", "subtract", "TWO"], k := 3, oi := [], lc := [0, 1, 2, 3, 4], sc := none }
theorem sc_p_plain_offset : FnScope n_p_plain_offset.N ["stamps"] (defScope s_p_plain_offset) := ⟨rfl, rfl, rfl, by decide +kernel, rfl, by decide +kernel, by decide +kernel⟩
theorem sb_p_plain_offset : ScOk (defScope s_p_plain_offset) n_p_plain_offset := scOk_of (by decide +kernel)
abbrev S_p_plain_offset : Sg := ST_plainoff
theorem bd_p_plain_offset {X : Cx} {c : Cc} (c_p_divide : CalF X n_p_plain_offset.k "divide" S_p_divide) (c_p_add : CalF X n_p_plain_offset.k "add" S_p_add) (c_p_subtract : CalF X n_p_plain_offset.k "subtract" S_p_subtract) (g_TWO : Con X "TWO" v_TWO) : ∀ ps Post, S_p_plain_offset ps Post → WB X n_p_plain_offset c (entry n_p_plain_offset.N ps) (defBody s_p_plain_offset) (fnD n_p_plain_offset.oi Post) := by
  rintro ps Post ⟨⟨x1, x2, x3, x4⟩, j, rfl, ⟨h1, h2, h3, h4⟩, hs, post⟩
  show WB X n_p_plain_offset c [.d (stD (x1, x2, x3, x4)), .no, .no, .no, .no] _ _
  refine wb_cons (ws_unp4 1 2 3 4 (we_of (ev_var 0) ⟨_, _, _, _, rfl, ?_⟩))
  have n0 : fr 2 1 ≠ 0 := by decide +kernel
  have two : v_TWO = qD (fr 2 1) := qD_fr (by decide) (by decide)
  exact wb_one (ws_ret (we_of (ev_call2 c_p_divide 0 (ek_d (ev_call2 c_p_add 1 (ek_d (ev_call2 c_p_subtract 2 (ek_d (ev_var 2)) (ek_d (ev_var 1)) fun _ z => ⟨x2, x1, j, j, rfl, h2, h1, by omega, z⟩)) (ek_d (ev_call2 c_p_subtract 2 (ek_d (ev_var 3)) (ek_d (ev_var 4)) fun _ z => ⟨x3, x4, j, j, rfl, h3, h4, by omega, z⟩)) fun _ z => ⟨x2 - x1, x3 - x4, j + j + 1, j + j + 1, rfl, h2.sub h1, h3.sub h4, by omega, z⟩)) (ek_d (ev_is (ev_glob 3 g_TWO) two)) fun _ z => ⟨(x2 - x1) + (x3 - x4), fr 2 1, _, 2, rfl, n0, (h2.sub h1).add (h3.sub h4), by rw [two_inv]; exact sz_half, by omega, z⟩) ⟨_, [], rfl, rfl, post⟩))


/-! _law_plain_ok -/
abbrev s_l_plain_ok : Stmt := top 50
abbrev n_l_plain_ok : Nm := { N := ["_law_readings", "_law_told", "_law_there"], V := [0, 1, 2], as := [0, 1, 2], GN := ["_law_is_frac", "_law_minus", "_law_plus"], k := 2, oi := [], lc := [0, 1, 2], sc := none }
theorem sc_l_plain_ok : FnScope n_l_plain_ok.N ["_law_readings", "_law_told"] (defScope s_l_plain_ok) := ⟨rfl, rfl, rfl, by decide +kernel, rfl, by decide +kernel, by decide +kernel⟩
theorem sb_l_plain_ok : ScOk (defScope s_l_plain_ok) n_l_plain_ok := scOk_of (by decide +kernel)
abbrev S_l_plain_ok : Sg := ST_plainok
theorem bd_l_plain_ok {X : Cx} {c : Cc} (c_l_is_frac : CalF X n_l_plain_ok.k "_law_is_frac" S_l_is_frac) (c_l_minus : CalF X n_l_plain_ok.k "_law_minus" S_l_minus) (c_l_plus : CalF X n_l_plain_ok.k "_law_plus" S_l_plus) : ∀ ps Post, S_l_plain_ok ps Post → WB X n_l_plain_ok c (entry n_l_plain_ok.N ps) (defBody s_l_plain_ok) (fnD n_l_plain_ok.oi Post) := by
  rintro ps Post ⟨x, j, rfl, hx, hj, post⟩
  have hp := plain_sz hx
  have e := plain_ok (x := x)
  obtain ⟨x1, x2, x3, x4⟩ := x
  have ⟨h1, h2, h3, h4⟩ := hx
  show WB X n_l_plain_ok c [.w (stD (x1, x2, x3, x4)), .w (qD (plainQ (x1, x2, x3, x4))), .no] _ _
  refine wb_cut (fun Γ => Γ = [.w (stD (x1, x2, x3, x4)), .w (qD (plainQ (x1, x2, x3, x4))), .no]) (ws_ifE (et_not (et_val (p := true) (ev_call1 c_l_is_frac 0 (ek_s 1) fun _ z => ⟨_, rfl, ⟨_, rfl, hp.mono (by omega)⟩, z⟩))) (fun h => (by cases h)) (fun h => wb_nil rfl)) ?_
  rintro Γ rfl
  refine wb_cons (ws_set 2 (we_of (ev_call2 c_l_minus 1 (ek_v (ev_call2 c_l_minus 1 (ek_v (ev_ix (z := qD x2) (ek_s 0) ev_int rfl)) (ek_v (ev_ix (z := qD x1) (ek_s 0) ev_int rfl)) fun _ z => ⟨_, _, j, j, rfl, h2, h1, by omega, z⟩)) (ek_s 1) fun _ z => ⟨_, _, _, _, rfl, h2.sub h1, hp, by omega, z⟩) ?_))
  refine wb_one (ws_ret (we_of (ev_eqD (ek_s 2) (ek_v (ev_call2 c_l_plus 2 (ek_v (ev_call2 c_l_minus 1 (ek_v (ev_ix (z := qD x4) (ek_s 0) ev_int rfl)) (ek_v (ev_ix (z := qD x3) (ek_s 0) ev_int rfl)) fun _ z => ⟨_, _, j, j, rfl, h4, h3, by omega, z⟩)) (ek_s 1) fun _ z => ⟨_, _, _, _, rfl, h4.sub h3, hp, by omega, z⟩)) (shp_q _) (shp_q _)) ⟨_, [], rfl, rfl, ?_⟩))
  have e2 : x2 - x1 - plainQ (x1, x2, x3, x4) = x4 - x3 + plainQ (x1, x2, x3, x4) := e
  rw [eqv_q, decide_eq_true e2]; exact post


/-! _law_half_ok -/
abbrev s_l_half_ok : Stmt := top 51
abbrev n_l_half_ok : Nm := { N := ["_law_span_here", "_law_told", "_law_plain", "_law_width", "_law_f"], V := [0, 1, 2, 3, 4], as := [0, 1, 2, 3, 4], GN := ["_law_minus", "_law_below", "_law_times"], k := 2, oi := [], lc := [0, 1, 2, 3, 4], sc := none }
theorem sc_l_half_ok : FnScope n_l_half_ok.N ["_law_span_here", "_law_told", "_law_plain"] (defScope s_l_half_ok) := ⟨rfl, rfl, rfl, by decide +kernel, rfl, by decide +kernel, by decide +kernel⟩
theorem sb_l_half_ok : ScOk (defScope s_l_half_ok) n_l_half_ok := scOk_of (by decide +kernel)
abbrev S_l_half_ok : Sg := ST_halfok
theorem bd_l_half_ok {X : Cx} {c : Cc} (c_l_minus : CalF X n_l_half_ok.k "_law_minus" S_l_minus) (c_l_below : CalF X n_l_half_ok.k "_law_below" S_l_below) (c_l_times : CalF X n_l_half_ok.k "_law_times" S_l_times) : ∀ ps Post, S_l_half_ok ps Post → WB X n_l_half_ok c (entry n_l_half_ok.N ps) (defBody s_l_half_ok) (fnD n_l_half_ok.oi Post) := by
  rintro ps Post ⟨x, ⟨a, b⟩, j, k, rfl, ho, hx, hs, hj, post⟩
  have hp := plain_sz hx
  have hh := fun u v t (h1 : a = some u) (h2 : b = some v) h => half_ok (x := x) (s := (a, b)) (t := t) h1 h2 (ho u v h1 h2) h
  have hz := fun t h => off_sz (s := t) h hx hs hs
  show WB X n_l_half_ok c [.w (sD (a, b)), .w (oS (offQ x (a, b) (a, b))), .w (qD (plainQ x)), .no, .no] _ _
  generalize offQ x (a, b) (a, b) = o at hh hz
  generalize plainQ x = pl at hh hp
  have yes : ∀ {G : SL} (h : True), ∃ r' os, (Res.d (.bl true)).le r' ∧ Backs G [] os ∧ Post r' os := fun _ => ⟨_, [], rfl, rfl, post⟩
  cases o with
  | none => exact wb_cut (fun _ => False) (ws_ifE (EW.t (ew_or (q := true) (et_isN (ek_s 1)) fun h => (by cases h))) (fun h => wb_one (ws_ret (we_of ev_bl (yes trivial)))) (fun h => (by cases h))) (fun _ h => h.elim)
  | some t =>
    cases a with
    | none => exact wb_cut (fun _ => False) (ws_ifE (EW.t (ew_or (et_isN (ek_s 1)) fun _ => ew_or (q := true) (et_isN (ek_v (ev_ix (z := .non) (ek_s 0) ev_int rfl))) fun h => (by cases h))) (fun h => wb_one (ws_ret (we_of ev_bl (yes trivial)))) (fun h => (by cases h))) (fun _ h => h.elim)
    | some u =>
      cases b with
      | none => exact wb_cut (fun _ => False) (ws_ifE (EW.t (ew_or (et_isN (ek_s 1)) fun _ => ew_or (et_isN (ek_v (ev_ix (z := qD u) (ek_s 0) ev_int rfl))) fun _ => ew_or1 (et_isN (ek_v (ev_ix (z := .non) (ek_s 0) ev_int rfl))))) (fun h => wb_one (ws_ret (we_of ev_bl (yes trivial)))) (fun h => (by cases h))) (fun _ h => h.elim)
      | some v =>
        obtain ⟨l, r, t1, t2, g1, g2, g3, g4⟩ := hh u v t rfl rfl rfl
        have tz := hz t rfl
        obtain ⟨t', t''⟩ := t
        simp only at t1 t2
        subst t1 t2
        have zl := tz.1 l rfl
        have zr := tz.2 r rfl
        have zu := hs.1 u rfl
        have zv := hs.2 v rfl
        refine wb_cut (fun Γ => Γ = [.w (sD (some u, some v)), .w (sD (some l, some r)), .w (qD pl), .no, .no]) (ws_ifE (EW.t (ew_or (et_isN (ek_s 1)) fun _ => ew_or (et_isN (ek_v (ev_ix (z := qD u) (ek_s 0) ev_int rfl))) fun _ => ew_or1 (et_isN (ek_v (ev_ix (z := qD v) (ek_s 0) ev_int rfl))))) (fun h => (by cases h)) (fun h => wb_nil rfl)) ?_
        rintro Γ rfl
        refine wb_cons (ws_set 3 (we_of (ev_call2 c_l_minus 0 (ek_v (ev_ix (z := qD v) (ek_s 0) ev_int rfl)) (ek_v (ev_ix (z := qD u) (ek_s 0) ev_int rfl)) fun _ z => ⟨_, _, k, k, rfl, zv, zu, by omega, z⟩) ?_))
        show WB X n_l_half_ok c [.w (sD (some u, some v)), .w (sD (some l, some r)), .w (qD pl), .d (qD (v - u)), .no] _ _
        refine wb_cut (fun Γ => ∃ s4, Γ = [.w (sD (some u, some v)), .w (sD (some l, some r)), .w (qD pl), .d (qD (v - u)), s4]) (ws_forT 4 (fun i Γ => ∃ s4, Γ = [.w (sD (some u, some v)), .w (sD (some l, some r)), .w (qD pl), .d (qD (v - u)), s4]) [qD l, qD r] (we_of (ev_fix 1) ⟨rfl, _, rfl⟩) ?_ (fun _ h => h)) (fun Γ h => by obtain ⟨s4, rfl⟩ := h; exact wb_one (ws_ret (we_of ev_bl (yes trivial))))
        rintro i Γ d hd ⟨s4, rfl⟩
        have hd' : ([l, r].map qD)[i]? = some d := hd
        rw [List.getElem?_map] at hd'
        obtain ⟨y, hy, rfl⟩ := Option.map_eq_some_iff.mp hd'
        have hm : y = l ∨ y = r := by simpa using List.mem_of_getElem? hy
        have zy : Sz (k + 2 * j + 2) y := by rcases hm with rfl | rfl <;> assumption
        have y1 : ¬ v - u < fr 2 1 * (pl - y) := by rcases hm with rfl | rfl <;> assumption
        have y2 : ¬ v - u < fr 2 1 * (y - pl) := by rcases hm with rfl | rfl <;> assumption
        have s2 : Sz 2 (fr 2 1) := fr_sz (bt_of (by decide) (by decide)) (bt_of (by decide) (by decide)) (by decide)
        show WB X n_l_half_ok c [.w (sD (some u, some v)), .w (sD (some l, some r)), .w (qD pl), .d (qD (v - u)), .d (qD y)] _ _
        refine wb_cut (fun Γ => Γ = [.w (sD (some u, some v)), .w (sD (some l, some r)), .w (qD pl), .d (qD (v - u)), .d (qD y)]) (ws_ifE (et_val (ev_call2 c_l_below 1 (ek_s 3) (ek_v (ev_call2 c_l_times 2 (ek_v (ev_q ev_int ev_int)) (ek_v (ev_call2 c_l_minus 0 (ek_s 2) (ek_s 4) fun _ z => ⟨_, _, _, _, rfl, hp, zy, by omega, z⟩)) fun _ z => ⟨_, _, _, _, rfl, s2, hp.sub zy, by omega, z⟩)) fun _ z => ⟨_, _, _, _, rfl, zv.sub zu, s2.mul (hp.sub zy), by omega, z⟩)) (fun h => absurd (of_decide_eq_true h) y1) (fun h => wb_nil rfl)) ?_
        rintro Γ rfl
        exact wb_one (ws_ifE (et_val (ev_call2 c_l_below 1 (ek_s 3) (ek_v (ev_call2 c_l_times 2 (ek_v (ev_q ev_int ev_int)) (ek_v (ev_call2 c_l_minus 0 (ek_s 4) (ek_s 2) fun _ z => ⟨_, _, _, _, rfl, zy, hp, by omega, z⟩)) fun _ z => ⟨_, _, _, _, rfl, s2, zy.sub hp, by omega, z⟩)) fun _ z => ⟨_, _, _, _, rfl, zv.sub zu, s2.mul (zy.sub hp), by omega, z⟩)) (fun h => absurd (of_decide_eq_true h) y2) (fun h => wb_nil ⟨_, rfl⟩))


/-! _law_same -/
abbrev s_l_same : Stmt := top 30
abbrev n_l_same (j : Nat) : Nm := { N := ["_law_value", "_law_due", "_law_keys", "_law_k", "_law_name"], V := [0, 1, 2, 3], as := [0, 1, 2, 3], GN := ["isinstance", "bool", "int", "_law_is_int", "str", "dict", "list", "_law_same", "tuple", "len", "range"], k := 1 + j, oi := [], lc := [2, 3], sc := some (defScope s_l_same) }
abbrev n_l_same_c1 (j : Nat) : Nm := { N := ["_law_value", "_law_due", "_law_keys", "_law_k", "_law_name"], V := [0, 4], as := [4], GN := [], k := 1 + j, oi := [] }
abbrev n_l_same_c2 (j : Nat) : Nm := { N := ["_law_value", "_law_due", "_law_keys", "_law_k", "_law_name"], V := [1, 4], as := [4], GN := [], k := 1 + j, oi := [] }
theorem sc_l_same : FnScope (n_l_same 0).N ["_law_value", "_law_due"] (defScope s_l_same) := ⟨rfl, rfl, rfl, by decide +kernel, rfl, by decide +kernel, by decide +kernel⟩
theorem sb_l_same : ScOk (defScope s_l_same) (n_l_same 0) := scOk_of (by decide +kernel)
abbrev S_l_same : Sg := ST_same 5
theorem bd_l_same {X : Cx} {c : Cc} (j : Nat) (b_isinstance : Blt X "isinstance" (.builtin "isinstance")) (b_bool : Blt X "bool" (.type "bool")) (b_int : Blt X "int" (.type "int")) (c_l_is_int : CalF X (n_l_same j).k "_law_is_int" S_l_is_int) (b_str : Blt X "str" (.type "str")) (b_dict : Blt X "dict" (.type "dict")) (b_list : Blt X "list" (.type "list")) (b_tuple : Blt X "tuple" (.type "tuple")) (b_len : Blt X "len" (.builtin "len")) (b_range : Blt X "range" (.type "range")) (c_rec : ∀ i, j = i + 1 → CalF X (n_l_same j).k "_law_same" (ST_same i)) : ∀ ps Post, ST_same j ps Post → WB X (n_l_same j) c (entry (n_l_same j).N ps) (defBody s_l_same) (fnD (n_l_same j).oi Post) := by
  rintro ps Post ⟨v, d, rfl, hp, post⟩
  show WB X (n_l_same j) c [.w v, .w d, .no, .no, .no] _ _
  refine wb_cut (fun Γ => Γ = [.w v, .w d, .no, .no, .no] ∧ d.isN = false) (ws_ifE (et_isN (ek_s 1)) (fun h => wb_one (ws_ret (we_of (ev_isN (ek_s 0)) ⟨_, [], rfl, rfl, post _ ?_⟩))) (fun h => wb_nil ⟨rfl, h⟩)) ?_
  · rw [ty_non h]; exact ⟨ty_non, fun e => by rw [e]; rfl⟩
  rintro Γ ⟨rfl, h1⟩
  refine wb_cut (fun Γ => Γ = [.w v, .w d, .no, .no, .no] ∧ tyB d.ty "bool" = false) (ws_ifE (et_isi b_isinstance b_bool 0 1 (ek_s 1)) (fun h => ?_) (fun h => wb_nil ⟨rfl, h⟩)) ?_
  · obtain ⟨b, rfl⟩ := ty_bool h
    refine wb_one (ws_ret (we_and (we_of (ev_isi b_isinstance b_bool 0 1 (ek_s 0)) ⟨_, rfl, fun q => ?_, fun q => ⟨_, [], rfl, rfl, post _ ⟨fun z => (by cases z), fun e => ?_⟩⟩⟩)))
    · obtain ⟨u, rfl⟩ := ty_bool q
      refine we_and1 (we_of (ev_eqD (ek_s 0) (ek_s 1) rfl rfl) ⟨_, [], rfl, rfl, post _ ?_⟩)
      cases u <;> cases b <;> simp [D.eqv, D.pd, PyData.eqv]
    · rw [e] at q; cases q
  rintro Γ ⟨rfl, h2⟩
  refine wb_cut (fun Γ => Γ = [.w v, .w d, .no, .no, .no] ∧ tyB d.ty "int" = false) (ws_ifE (et_isi b_isinstance b_int 0 2 (ek_s 1)) (fun h => ?_) (fun h => wb_nil ⟨rfl, h⟩)) ?_
  · obtain ⟨b, rfl⟩ := ty_int h h2
    refine wb_one (ws_ret (we_and (we_of (ev_call1 c_l_is_int 3 (ek_s 0) fun _ p => ⟨_, rfl, p⟩) ⟨_, rfl, fun q => ?_, fun q => ⟨_, [], rfl, rfl, post _ ⟨fun z => (by cases z), fun e => ?_⟩⟩⟩)))
    · obtain ⟨u, rfl⟩ := isI_of q
      refine we_and1 (we_of (ev_eqD (ek_s 0) (ek_s 1) rfl rfl) ⟨_, [], rfl, rfl, post _ ?_⟩)
      show (u == b) = true ↔ _
      simp
    · rw [e] at q; cases q
  rintro Γ ⟨rfl, h3⟩
  refine wb_cut (fun Γ => Γ = [.w v, .w d, .no, .no, .no] ∧ tyB d.ty "str" = false) (ws_ifE (et_isi b_isinstance b_str 0 4 (ek_s 1)) (fun h => ?_) (fun h => wb_nil ⟨rfl, h⟩)) ?_
  · obtain ⟨b, rfl⟩ := ty_str h
    exact absurd hp (by cases j <;> exact fun z => z)
  rintro Γ ⟨rfl, h4⟩
  refine wb_cut (fun Γ => Γ = [.w v, .w d, .no, .no, .no] ∧ tyB d.ty "dict" = false) (ws_ifE (et_isi b_isinstance b_dict 0 5 (ek_s 1)) (fun h => ?_) (fun h => wb_nil ⟨rfl, h⟩)) ?_
  · obtain ⟨b, rfl⟩ := ty_dict h
    exact absurd hp (by cases j <;> exact fun z => z)
  rintro Γ ⟨rfl, h5⟩
  refine wb_cut (fun Γ => Γ = [.w v, .w d, .no, .no, .no] ∧ (tyB d.ty "list" && !tyB v.ty "list") = false) (ws_ifE (EW.t (ew_and (et_isi b_isinstance b_list 0 6 (ek_s 1)) fun _ => ew_and1 (et_not (et_isi b_isinstance b_list 0 6 (ek_s 0))))) (fun h => wb_one (ws_ret (we_of ev_bl ⟨_, [], rfl, rfl, post _ ⟨fun z => (by cases z), fun e => ?_⟩⟩))) (fun h => wb_nil ⟨rfl, h⟩)) ?_
  · rw [e] at h; simp at h
  rintro Γ ⟨rfl, h6⟩
  refine wb_cut (fun Γ => Γ = [.w v, .w d, .no, .no, .no] ∧ (tyB d.ty "tuple" && !tyB v.ty "tuple") = false) (ws_ifE (EW.t (ew_and (et_isi b_isinstance b_tuple 0 8 (ek_s 1)) fun _ => ew_and1 (et_not (et_isi b_isinstance b_tuple 0 8 (ek_s 0))))) (fun h => wb_one (ws_ret (we_of ev_bl ⟨_, [], rfl, rfl, post _ ⟨fun z => (by cases z), fun e => ?_⟩⟩))) (fun h => wb_nil ⟨rfl, h⟩)) ?_
  · rw [e] at h; simp at h
  rintro Γ ⟨rfl, h7⟩
  obtain ⟨vs, ds, q1, q2, q3, q4, q5, q6, q7, q8, q9⟩ := same_seq h1 h2 h3 h4 h5 h6 h7
  cases j with
  | zero => exact absurd hp q9
  | succ i =>
  obtain ⟨hz, hpl⟩ := q8 i hp
  refine wb_cut (fun Γ => Γ = [.w v, .w d, .no, .no, .no] ∧ vs.length = ds.length) (ws_ifE (et_ne (ev_len b_len 9 (ek_s 0) q2 fun z e => absurd e (q4 z)) (ev_len b_len 9 (ek_s 1) q3 fun z e => absurd e (q5 z))) (fun h => wb_one (ws_ret (we_of ev_bl ⟨_, [], rfl, rfl, post _ ⟨fun z => (by cases z), fun e => ?_⟩⟩))) (fun h => wb_nil ⟨rfl, ?_⟩)) ?_
  · rw [q1.mp e] at h; simp at h
  · simp at h; omega
  rintro Γ ⟨rfl, hl⟩
  refine wb_cut (fun Γ => (∃ s, Γ = [.w v, .w d, .no, s, .no]) ∧ vs = ds) (ws_forR1 3 (fun i Γ => (∃ s, Γ = [.w v, .w d, .no, s, .no]) ∧ vs.take i = ds.take i) ds.length b_range 10 (we_of (ev_len b_len 9 (ek_s 1) q3 fun z e => absurd e (q5 z)) ⟨_, rfl, by simp, by omega, by omega, ⟨_, rfl⟩, rfl⟩) ?_ ?_) ?_
  · rintro k Γ hk ⟨⟨s, rfl⟩, ht⟩
    have e1 := atB (xs := vs) (i := k) (by omega)
    have e2 := atB hk
    refine wb_one (ws_if (wt_not (wt_val (we_call2v (c_rec i rfl) 7 (we_of (ev_ix (ek_s 0) (ev_var 3) (q6 k _ e1)) (we_of (ev_ix (ek_s 1) (ev_var 3) (q7 k _ e2)) ⟨_, _, rfl, hpl _ (List.getElem_mem hk), fun b hb => ⟨.bl b, rfl, b, rfl, fun z => ?_, fun z => ?_⟩⟩))))))
    · refine wb_one (ws_ret (we_of ev_bl ⟨_, [], rfl, rfl, post _ ⟨fun z => (by cases z), fun e => ?_⟩⟩))
      have e' := q1.mp e
      subst e'
      rw [hb.mpr rfl] at z; cases z
    · refine wb_nil ⟨⟨_, rfl⟩, take_succ ht ?_⟩
      rw [e1, e2, hb.mp (by simpa using z)]
  · rintro Γ ⟨hs, ht⟩
    refine ⟨hs, ?_⟩
    have h8 : vs.take vs.length = ds.take ds.length := by rw [hl]; exact ht
    simpa using h8
  rintro Γ ⟨⟨s, rfl⟩, e⟩
  exact wb_one (ws_ret (we_of ev_bl ⟨_, [], rfl, rfl, post _ ⟨fun _ => q1.mpr e, fun _ => rfl⟩⟩))


/-! round_trip -/
abbrev s_p_round_trip : Stmt := top 19
abbrev n_p_round_trip : Nm := { N := ["stamps", "a", "b", "c", "d"], V := [0, 1, 2, 3, 4], as := [0, 1, 2, 3, 4], GN := ["subtract"], k := 3, oi := [], lc := [0, 1, 2, 3, 4], sc := none }
theorem sc_p_round_trip : FnScope n_p_round_trip.N ["stamps"] (defScope s_p_round_trip) := ⟨rfl, rfl, rfl, by decide +kernel, rfl, by decide +kernel, by decide +kernel⟩
theorem sb_p_round_trip : ScOk (defScope s_p_round_trip) n_p_round_trip := scOk_of (by decide +kernel)
abbrev S_p_round_trip : Sg := ST_trip
theorem bd_p_round_trip {X : Cx} {c : Cc} (c_p_subtract : CalF X n_p_round_trip.k "subtract" S_p_subtract) : ∀ ps Post, S_p_round_trip ps Post → WB X n_p_round_trip c (entry n_p_round_trip.N ps) (defBody s_p_round_trip) (fnD n_p_round_trip.oi Post) := by
  rintro ps Post ⟨⟨x1, x2, x3, x4⟩, j, rfl, ⟨h1, h2, h3, h4⟩, hs, post⟩
  show WB X n_p_round_trip c [.d (stD (x1, x2, x3, x4)), .no, .no, .no, .no] _ _
  refine wb_cons (ws_unp4 1 2 3 4 (we_of (ev_var 0) ⟨_, _, _, _, rfl, ?_⟩))
  exact wb_one (ws_ret (we_of (ev_call2 c_p_subtract 0 (ek_d (ev_call2 c_p_subtract 0 (ek_d (ev_var 4)) (ek_d (ev_var 1)) fun _ z => ⟨x4, x1, j, j, rfl, h4, h1, by omega, z⟩)) (ek_d (ev_call2 c_p_subtract 0 (ek_d (ev_var 3)) (ek_d (ev_var 2)) fun _ z => ⟨x3, x2, j, j, rfl, h3, h2, by omega, z⟩)) fun _ z => ⟨x4 - x1, x3 - x2, j + j + 1, j + j + 1, rfl, h4.sub h1, h3.sub h2, by omega, z⟩) ⟨_, [], rfl, rfl, post⟩))


/-! law -/
abbrev s_law : Stmt := top 52
abbrev n_law : Nm := { N := ["_law_script", "_law_store_here", "_law_row", "_law_one", "_law_readings", "_law_plain", "_law_span_here", "_law_told", "_law_trip"], V := [0, 1, 2, 3, 4, 5, 6, 7, 8], as := [0, 1, 2, 3, 4, 5, 6, 7, 8], GN := ["_law_store", "_law_drawn", "_law_offsets_ok", "offset_span", "plain_offset", "_law_plain_ok", "_law_half_ok", "_law_minus", "_law_plus", "_law_same", "round_trip"], k := 7, oi := [], lc := [0, 1, 2, 3, 4, 5, 6, 7, 8], sc := none }
theorem sc_law : FnScope n_law.N ["_law_script"] (defScope s_law) := ⟨rfl, rfl, rfl, by decide +kernel, rfl, by decide +kernel, by decide +kernel⟩
theorem sb_law : ScOk (defScope s_law) n_law := scOk_of (by decide +kernel)
def S_law : Sg := fun ps Post => ∃ ns : List Int, ps = [.sc ns] ∧ ns.length ≤ 63 ∧ Post (.d (.bl true)) []
theorem bd_law {X : Cx} {c : Cc} (c_l_store : CalF X n_law.k "_law_store" S_l_store) (c_l_drawn : CalF X n_law.k "_law_drawn" S_l_drawn) (c_l_offsets_ok : CalF X n_law.k "_law_offsets_ok" S_l_offsets_ok) (c_p_offset_span : CalF X n_law.k "offset_span" S_p_offset_span) (c_p_plain_offset : CalF X n_law.k "plain_offset" S_p_plain_offset) (c_l_plain_ok : CalF X n_law.k "_law_plain_ok" S_l_plain_ok) (c_l_half_ok : CalF X n_law.k "_law_half_ok" S_l_half_ok) (c_l_minus : CalF X n_law.k "_law_minus" S_l_minus) (c_l_plus : CalF X n_law.k "_law_plus" S_l_plus) (c_l_same : CalF X n_law.k "_law_same" S_l_same) (c_p_round_trip : CalF X n_law.k "round_trip" S_p_round_trip) : ∀ ps Post, S_law ps Post → WB X n_law c (entry n_law.N ps) (defBody s_law) (fnD n_law.oi Post) := by
  rintro ps Post ⟨ns, rfl, hz, post⟩
  show WB X n_law c [.sc ns, .no, .no, .no, .no, .no, .no, .no, .no] _ _
  refine wb_cons (ws_setO 1 (wo_callE c_l_store 0 (ea_cons (ek_s 0) ea_nil) ⟨ns, rfl, hz, .sto, rfl, ?_⟩))
  have q4 : ∀ {x : Stp} {f b : Spn}, St4 41 x → OrdS f → OrdS b → SzS 130 f → SzS 130 b → IsQ (.tup [stD x, sD f, sD b]) := fun h1 h2 h3 h4 h5 => ⟨_, _, _, rfl, h1, h2, h3, h4, h5⟩
  refine wb_cut (fun Γ => ∃ d1 d2 : DL.D, Γ = [.sc ns, .own .sto, .own (.lst [d1, d2]), .no, .no, .no, .no, .no, .no] ∧ IsQ d1 ∧ IsQ d2) (ws_setO 2 (wo_lst (wa_cons (wk_e (we_st0 c_l_drawn 1 1 fun Q q => ⟨rfl, fun x f b h1 h2 h3 h4 h5 => q _ ⟨_, rfl, wa_cons (wk_e (we_st0 c_l_drawn 1 1 fun Q2 q2 => ⟨rfl, fun y g e g1 g2 g3 g4 g5 => q2 _ ⟨_, rfl, wa_nil ⟨[_, _], rfl, Nat.le_of_ble_eq_true rfl, _, _, rfl, q4 h1 h2 h3 h4 h5, q4 g1 g2 g3 g4 g5⟩⟩⟩))⟩⟩))))) ?_
  rintro Γ ⟨d1, d2, rfl, hd1, hd2⟩
  have same : ∀ {Q : Res → List OB → Prop} {v d : DL.D} {b : Bool}, v = d → (b = true ↔ v = d) → Q (.d (.bl true)) [] → Q (.d (.bl b)) [] := fun e hb z => by
    have := hb.mpr e
    subst this; exact z
  refine wb_cut (fun Γ => True) (ws_forL 3 (fun i Γ => ∃ s3 s4 s5 s6 s7 s8 : DL.Slot, Γ = [.sc ns, .own .sto, .own (.lst [d1, d2]), s3, s4, s5, s6, s7, s8]) [d1, d2, d1] (we_of (ev_frz (eo_cat (xs := [d1, d2]) (ys := [d1]) (ek_s 2) (ek_v (ev_frz (eo_slice (l1 := none) (h1 := some 1) (xs := [d1, d2]) (ek_s 2) trivial ev_int))) (Nat.le_of_ble_eq_true rfl))) ⟨rfl, _, _, _, _, _, _, rfl⟩) ?_ (fun _ _ => trivial)) (fun Γ _ => wb_one (ws_ret (we_of ev_bl ⟨_, [], rfl, rfl, post⟩)))
  rintro i Γ d hd ⟨s3, s4, s5, s6, s7, s8, rfl⟩
  have hq : IsQ d := by
    have hm := List.mem_of_getElem? hd
    simp only [List.mem_cons, List.not_mem_nil, or_false] at hm
    rcases hm with rfl | rfl | rfl <;> assumption
  obtain ⟨x, f, b, rfl, hx, of, ob, hf, hb⟩ := hq
  show WB X n_law c [.sc ns, .own .sto, .own (.lst [d1, d2]), .d (.tup [stD x, sD f, sD b]), s4, s5, s6, s7, s8] _ _
  refine wb_cons (ws_set 4 (we_of (ev_ixt (z := stD x) (ev_var 3) ev_int) ?_))
  show WB X n_law c [.sc ns, .own .sto, .own (.lst [d1, d2]), .d (.tup [stD x, sD f, sD b]), .d (stD x), s5, s6, s7, s8] _ _
  have off : ∀ {u v : Spn}, SzS 130 u → SzS 130 v → ∀ Q : Res → List OB → Prop, Q (.d (oS (offQ x u v))) [] → ST_offspan [.d (stD x), .d (sD u), .d (sD v)] Q := fun h1 h2 _ z => ⟨x, _, _, 41, 130, rfl, hx, h1, h2, by decide, z⟩
  have ook : ∀ {u v : Spn}, SzS 130 u → SzS 130 v → ∀ Q : Res → List OB → Prop, Q (.d (.bl true)) [] → ST_offok [.w (stD x), .w (sD u), .w (sD v), .w (oS (offQ x u v))] Q := fun h1 h2 _ z => ⟨x, _, _, 41, 130, rfl, hx, h1, h2, by decide, z⟩
  refine wb_cut (fun Γ => Γ = [.sc ns, .own .sto, .own (.lst [d1, d2]), .d (.tup [stD x, sD f, sD b]), .d (stD x), s5, s6, s7, s8]) (ws_ifE (et_not (et_val (p := true) (ev_call4 c_l_offsets_ok 2 (ek_s 4) (ek_v (ev_ixt (z := sD f) (ev_var 3) ev_int)) (ek_v (ev_ixt (z := sD b) (ev_var 3) ev_int)) (ek_v (ev_call3 c_p_offset_span 3 (ek_d (ev_var 4)) (ek_d (ev_ixt (z := sD f) (ev_var 3) ev_int)) (ek_d (ev_ixt (z := sD b) (ev_var 3) ev_int)) (off hf hb))) (ook hf hb)))) (fun h => (by cases h)) (fun h => wb_nil rfl)) ?_
  rintro Γ rfl
  refine wb_cut (fun Γ => Γ = [.sc ns, .own .sto, .own (.lst [d1, d2]), .d (.tup [stD x, sD f, sD b]), .d (stD x), s5, s6, s7, s8]) (ws_ifE (et_not (et_val (p := true) (ev_call4 c_l_offsets_ok 2 (ek_s 4) (ek_v (ev_ixt (z := sD b) (ev_var 3) ev_int)) (ek_v (ev_ixt (z := sD f) (ev_var 3) ev_int)) (ek_v (ev_call3 c_p_offset_span 3 (ek_d (ev_var 4)) (ek_d (ev_ixt (z := sD b) (ev_var 3) ev_int)) (ek_d (ev_ixt (z := sD f) (ev_var 3) ev_int)) (off hb hf))) (ook hb hf)))) (fun h => (by cases h)) (fun h => wb_nil rfl)) ?_
  rintro Γ rfl
  refine wb_cons (ws_set 5 (we_of (ev_call1 c_p_plain_offset 4 (ek_d (ev_var 4)) fun _ z => ⟨x, 41, rfl, hx, by decide, z⟩) ?_))
  show WB X n_law c [.sc ns, .own .sto, .own (.lst [d1, d2]), .d (.tup [stD x, sD f, sD b]), .d (stD x), .d (qD (plainQ x)), s6, s7, s8] _ _
  refine wb_cut (fun Γ => Γ = [.sc ns, .own .sto, .own (.lst [d1, d2]), .d (.tup [stD x, sD f, sD b]), .d (stD x), .d (qD (plainQ x)), s6, s7, s8]) (ws_ifE (et_not (et_val (p := true) (ev_call2 c_l_plain_ok 5 (ek_s 4) (ek_s 5) fun _ z => ⟨x, 41, rfl, hx, by decide, z⟩))) (fun h => (by cases h)) (fun h => wb_nil rfl)) ?_
  rintro Γ rfl
  refine wb_cut (fun Γ => ∃ s6 s7 : DL.Slot, Γ = [.sc ns, .own .sto, .own (.lst [d1, d2]), .d (.tup [stD x, sD f, sD b]), .d (stD x), .d (qD (plainQ x)), s6, s7, s8]) (ws_forT 6 (fun i Γ => ∃ s6 s7 : DL.Slot, Γ = [.sc ns, .own .sto, .own (.lst [d1, d2]), .d (.tup [stD x, sD f, sD b]), .d (stD x), .d (qD (plainQ x)), s6, s7, s8]) [sD f, sD b] (we_of (ev_sliceT (l1 := some 1) (h1 := none) (xs := [stD x, sD f, sD b]) (ek_s 3) ev_int trivial (by show ¬ (1 = 0 ∧ _); omega)) ⟨rfl, _, _, rfl⟩) ?_ (fun _ h => h)) ?_
  · rintro i Γ d hd ⟨s6, s7, rfl⟩
    have hd' : ([f, b].map sD)[i]? = some d := hd
    rw [List.getElem?_map] at hd'
    obtain ⟨s, hs, rfl⟩ := Option.map_eq_some_iff.mp hd'
    have hm : s = f ∨ s = b := by simpa using List.mem_of_getElem? hs
    have os : OrdS s := by rcases hm with rfl | rfl <;> assumption
    have zs : SzS 130 s := by rcases hm with rfl | rfl <;> assumption
    show WB X n_law c [.sc ns, .own .sto, .own (.lst [d1, d2]), .d (.tup [stD x, sD f, sD b]), .d (stD x), .d (qD (plainQ x)), .d (sD s), s7, s8] _ _
    refine wb_cons (ws_set 7 (we_of (ev_call3 c_p_offset_span 3 (ek_d (ev_var 4)) (ek_d (ev_var 6)) (ek_d (ev_var 6)) (off zs zs)) ?_))
    exact wb_one (ws_ifE (EW.t (ew_or (et_not (et_val (p := true) (ev_call4 c_l_offsets_ok 2 (ek_s 4) (ek_s 6) (ek_s 6) (ek_s 7) (ook zs zs)))) fun _ => ew_or1 (et_not (et_val (p := true) (ev_call3 c_l_half_ok 6 (ek_s 6) (ek_s 7) (ek_s 5) fun _ z => ⟨x, s, 41, 130, rfl, os, hx, zs, by decide, z⟩))))) (fun h => (by cases h)) (fun h => wb_nil ⟨_, _, rfl⟩))
  clear s6 s7
  rintro Γ ⟨s6, s7, rfl⟩
  obtain ⟨x1, x2, x3, x4⟩ := x
  have ⟨h1, h2, h3, h4⟩ := hx
  refine wb_cons (ws_set 8 (we_of (ev_call2 c_l_minus 7 (ek_v (ev_call2 c_l_plus 8 (ek_v (ev_ixt (z := qD x2) (ev_var 4) ev_int)) (ek_v (ev_ixt (z := qD x4) (ev_var 4) ev_int)) fun _ z => ⟨_, _, 41, 41, rfl, h2, h4, by decide, z⟩)) (ek_v (ev_call2 c_l_plus 8 (ek_v (ev_ixt (z := qD x1) (ev_var 4) ev_int)) (ek_v (ev_ixt (z := qD x3) (ev_var 4) ev_int)) fun _ z => ⟨_, _, 41, 41, rfl, h1, h3, by decide, z⟩)) fun _ z => ⟨_, _, _, _, rfl, h2.add h4, h1.add h3, by decide, z⟩) ?_))
  have e : (x4 - x1) - (x3 - x2) = (x2 + x4) - (x1 + x3) := by grind
  refine wb_one (ws_ifE (et_not (et_val (p := true) (ev_call2 c_l_same 9 (ek_v (ev_call1 c_p_round_trip 10 (ek_d (ev_var 4)) fun _ z => ⟨(x1, x2, x3, x4), 41, rfl, hx, by decide, z⟩)) (ek_s 8) fun _ z => ⟨_, qD ((x2 + x4) - (x1 + x3)), rfl, pl_q 4 _, fun b hb => same (congrArg (fun q => qD q) e) hb z⟩))) (fun h => (by cases h)) (fun h => wb_nil ⟨_, _, _, _, _, _, rfl⟩))


/-! ### what the top has written -/
structure Wd (K : PySem.W.Frag) (mg : Str → Option Value) where
  d_l_store : DefAt K mg "_law_store" s_l_store ["_law_script"]
  d_l_feed : DefAt K mg "_law_feed" s_l_feed ["_law_store_here"]
  d_l_mixed : DefAt K mg "_law_mixed" s_l_mixed ["_law_store_here"]
  d_l_take : DefAt K mg "_law_take" s_l_take ["_law_store_here", "_law_many"]
  d_l_pick : DefAt K mg "_law_pick" s_l_pick ["_law_store_here", "_law_things"]
  d_l_frac : DefAt K mg "_law_frac" s_l_frac ["_law_n", "_law_d"]
  d_l_ratio : DefAt K mg "_law_ratio" s_l_ratio ["_law_store_here", "_law_top"]
  d_l_below : DefAt K mg "_law_below" s_l_below ["_law_a", "_law_b"]
  d_l_wide_span : DefAt K mg "_law_wide_span" s_l_wide_span ["_law_store_here"]
  d_l_part : DefAt K mg "_law_part" s_l_part ["_law_store_here"]
  d_l_stamps : DefAt K mg "_law_stamps" s_l_stamps ["_law_store_here"]
  d_l_span : DefAt K mg "_law_span" s_l_span ["_law_store_here", "_law_reach"]
  d_l_minus : DefAt K mg "_law_minus" s_l_minus ["_law_a", "_law_b"]
  d_l_plus : DefAt K mg "_law_plus" s_l_plus ["_law_a", "_law_b"]
  d_l_spare : DefAt K mg "_law_spare" s_l_spare ["_law_store_here"]
  d_l_round : DefAt K mg "_law_round" s_l_round ["_law_store_here", "_law_x"]
  d_l_drawn : DefAt K mg "_law_drawn" s_l_drawn ["_law_store_here"]
  d_l_is_int : DefAt K mg "_law_is_int" s_l_is_int ["_law_value"]
  d_l_is_frac : DefAt K mg "_law_is_frac" s_l_is_frac ["_law_value"]
  d_l_is_span : DefAt K mg "_law_is_span" s_l_is_span ["_law_value"]
  d_l_ordered : DefAt K mg "_law_ordered" s_l_ordered ["_law_fracs"]
  d_l_times : DefAt K mg "_law_times" s_l_times ["_law_a", "_law_b"]
  d_l_probes : DefAt K mg "_law_probes" s_l_probes ["_law_spans"]
  d_l_in_span : DefAt K mg "_law_in_span" s_l_in_span ["_law_span_here", "_law_t"]
  d_l_offsets_ok : DefAt K mg "_law_offsets_ok" s_l_offsets_ok ["_law_readings", "_law_forth", "_law_back", "_law_told"]
  d_p_common_factor : DefAt K mg "common_factor" s_p_common_factor ["a", "b"]
  d_p_add : DefAt K mg "add" s_p_add ["a", "b"]
  d_p_shift : DefAt K mg "shift" s_p_shift ["span", "by"]
  d_p_negate : DefAt K mg "negate" s_p_negate ["a"]
  d_p_mirrored : DefAt K mg "mirrored" s_p_mirrored ["span"]
  d_p_subtract : DefAt K mg "subtract" s_p_subtract ["a", "b"]
  d_p_compare : DefAt K mg "compare" s_p_compare ["a", "b"]
  d_p_larger : DefAt K mg "larger" s_p_larger ["a", "b"]
  d_p_smaller : DefAt K mg "smaller" s_p_smaller ["a", "b"]
  d_p_ends_cross : DefAt K mg "ends_cross" s_p_ends_cross ["low", "high"]
  d_p_meet : DefAt K mg "meet" s_p_meet ["a", "b"]
  d_p_offset_span : DefAt K mg "offset_span" s_p_offset_span ["stamps", "forth", "back"]
  d_p_multiply : DefAt K mg "multiply" s_p_multiply ["a", "b"]
  d_p_divide : DefAt K mg "divide" s_p_divide ["a", "b"]
  d_p_plain_offset : DefAt K mg "plain_offset" s_p_plain_offset ["stamps"]
  d_l_plain_ok : DefAt K mg "_law_plain_ok" s_l_plain_ok ["_law_readings", "_law_told"]
  d_l_half_ok : DefAt K mg "_law_half_ok" s_l_half_ok ["_law_span_here", "_law_told", "_law_plain"]
  d_l_same : DefAt K mg "_law_same" s_l_same ["_law_value", "_law_due"]
  d_p_round_trip : DefAt K mg "round_trip" s_p_round_trip ["stamps"]
  d_law : DefAt K mg "law" s_law ["_law_script"]
  b_list : mg "list" = none
  b_int : mg "int" = none
  b_abs : mg "abs" = none
  b_max : mg "max" = none
  b_len : mg "len" = none
  b_tuple : mg "tuple" = none
  b_range : mg "range" = none
  b_isinstance : mg "isinstance" = none
  b_bool : mg "bool" = none
  b_str : mg "str" = none
  b_dict : mg "dict" = none
  g_TWO : ∃ v u, mg "TWO" = some u ∧ RelV v u ∧ ∀ R, Rp K R v_TWO v
section
variable {P : Program} {w : World} {K : PySem.W.Frag} {mg : Str → Option Value} {base : Heap}
theorem ok_l_store (T : Wd K mg) : FnOk P w K mg base CX0 1 T.d_l_store.a T.d_l_store.fd ["_law_script"] (spOf K S_l_store) :=
  fn_ok T.d_l_store.F sc_l_store sb_l_store (.inl rfl) (by rintro ps Post ⟨ns, rfl, _⟩; exact ⟨rfl, rfl⟩) (fun X c e => by obtain ⟨rfl, rfl, rfl, rfl, rfl⟩ := e; exact bd_l_store ⟨T.b_list, by decide +kernel⟩)
theorem ok_l_feed (T : Wd K mg) : FnOk P w K mg base CX0 1 T.d_l_feed.a T.d_l_feed.fd ["_law_store_here"] (spOf K S_l_feed) :=
  fn_ok T.d_l_feed.F sc_l_feed sb_l_feed (.inl rfl) (by rintro ps Post ⟨ns, pl, great, st, left, cnt, rfl, _⟩; exact ⟨rfl, rfl⟩) (fun X c e => by obtain ⟨rfl, rfl, rfl, rfl, rfl⟩ := e; exact bd_l_feed ⟨T.b_int, by decide +kernel⟩ ⟨T.b_abs, by decide +kernel⟩)
theorem ok_l_mixed (T : Wd K mg) : FnOk P w K mg base CX0 1 T.d_l_mixed.a T.d_l_mixed.fd ["_law_store_here"] (spOf K S_l_mixed) :=
  fn_ok T.d_l_mixed.F sc_l_mixed sb_l_mixed (.inl rfl) (by rintro ps Post ⟨ns, place, great, st, left, cnt, rfl, _⟩; exact ⟨rfl, rfl⟩) (fun X c e => by obtain ⟨rfl, rfl, rfl, rfl, rfl⟩ := e; exact bd_l_mixed ⟨T.b_int, by decide +kernel⟩)
theorem ok_l_take (T : Wd K mg) : FnOk P w K mg base CX0 2 T.d_l_take.a T.d_l_take.fd ["_law_store_here", "_law_many"] (spOf K S_l_take) :=
  fn_ok T.d_l_take.F sc_l_take sb_l_take (.inl rfl) (by rintro ps Post ⟨many, rfl, _⟩; exact ⟨rfl, rfl⟩) (fun X c e => by obtain ⟨rfl, rfl, rfl, rfl, rfl⟩ := e; exact bd_l_take ⟨T.b_max, by decide +kernel⟩ ⟨T.b_len, by decide +kernel⟩ (T.d_l_feed.cal (ok_l_feed T) (by decide)) ⟨T.b_int, by decide +kernel⟩ (T.d_l_mixed.cal (ok_l_mixed T) (by decide)))
theorem ok_l_pick (T : Wd K mg) : FnOk P w K mg base CX0 3 T.d_l_pick.a T.d_l_pick.fd ["_law_store_here", "_law_things"] (spOf K S_l_pick) :=
  fn_ok T.d_l_pick.F sc_l_pick sb_l_pick (.inl rfl) (by rintro ps Post ⟨x, m, rfl, _⟩; exact ⟨rfl, rfl⟩) (fun X c e => by obtain ⟨rfl, rfl, rfl, rfl, rfl⟩ := e; exact bd_l_pick (T.d_l_take.cal (ok_l_take T) (by decide)) ⟨T.b_len, by decide +kernel⟩)
theorem ok_l_frac (T : Wd K mg) : FnOk P w K mg base CX0 1 T.d_l_frac.a T.d_l_frac.fd ["_law_n", "_law_d"] (spOf K S_l_frac) :=
  fn_ok T.d_l_frac.F sc_l_frac sb_l_frac (.inl rfl) (by rintro ps Post ⟨n, d, rfl, _⟩; exact ⟨rfl, rfl⟩) (fun X c e => by obtain ⟨rfl, rfl, rfl, rfl, rfl⟩ := e; exact bd_l_frac ⟨T.b_abs, by decide +kernel⟩ ⟨T.b_int, by decide +kernel⟩)
theorem ok_l_ratio (T : Wd K mg) : FnOk P w K mg base CX0 4 T.d_l_ratio.a T.d_l_ratio.fd ["_law_store_here", "_law_top"] (spOf K S_l_ratio) :=
  fn_ok T.d_l_ratio.F sc_l_ratio sb_l_ratio (.inl rfl) (by rintro ps Post ⟨top, rfl, _⟩; exact ⟨rfl, rfl⟩) (fun X c e => by obtain ⟨rfl, rfl, rfl, rfl, rfl⟩ := e; exact bd_l_ratio (T.d_l_take.cal (ok_l_take T) (by decide)) (T.d_l_pick.cal (ok_l_pick T) (by decide)) (T.d_l_frac.cal (ok_l_frac T) (by decide)))
theorem ok_l_below (T : Wd K mg) : FnOk P w K mg base CX0 1 T.d_l_below.a T.d_l_below.fd ["_law_a", "_law_b"] (spOf K S_l_below) :=
  fn_ok T.d_l_below.F sc_l_below sb_l_below (.inl rfl) (by rintro ps Post ⟨a, b, j, k, rfl, _⟩; exact ⟨rfl, rfl⟩) (fun X c e => by obtain ⟨rfl, rfl, rfl, rfl, rfl⟩ := e; exact bd_l_below )
theorem ok_l_wide_span (T : Wd K mg) : FnOk P w K mg base CX0 5 T.d_l_wide_span.a T.d_l_wide_span.fd ["_law_store_here"] (spOf K S_l_wide_span) :=
  fn_ok T.d_l_wide_span.F sc_l_wide_span sb_l_wide_span (.inl rfl) (by rintro ps Post ⟨rfl, _⟩; exact ⟨rfl, rfl⟩) (fun X c e => by obtain ⟨rfl, rfl, rfl, rfl, rfl⟩ := e; exact bd_l_wide_span (T.d_l_ratio.cal (ok_l_ratio T) (by decide)) (T.d_l_below.cal (ok_l_below T) (by decide)) (T.d_l_pick.cal (ok_l_pick T) (by decide)))
theorem ok_l_part (T : Wd K mg) : FnOk P w K mg base CX0 4 T.d_l_part.a T.d_l_part.fd ["_law_store_here"] (spOf K S_l_part) :=
  fn_ok T.d_l_part.F sc_l_part sb_l_part (.inl rfl) (by rintro ps Post ⟨rfl, _⟩; exact ⟨rfl, rfl⟩) (fun X c e => by obtain ⟨rfl, rfl, rfl, rfl, rfl⟩ := e; exact bd_l_part (T.d_l_take.cal (ok_l_take T) (by decide)) (T.d_l_pick.cal (ok_l_pick T) (by decide)) (T.d_l_frac.cal (ok_l_frac T) (by decide)))
theorem ok_l_stamps (T : Wd K mg) : FnOk P w K mg base CX0 5 T.d_l_stamps.a T.d_l_stamps.fd ["_law_store_here"] (spOf K S_l_stamps) :=
  fn_ok T.d_l_stamps.F sc_l_stamps sb_l_stamps (.inr rfl) (by rintro ps Post ⟨rfl, _⟩; exact ⟨rfl, rfl⟩) (fun X c e => by obtain ⟨rfl, rfl, rfl, rfl, rfl⟩ := e; exact bd_l_stamps ⟨T.b_tuple, by decide +kernel⟩ ⟨T.b_range, by decide +kernel⟩ (T.d_l_part.cal (ok_l_part T) (by decide)))
theorem ok_l_span (T : Wd K mg) : FnOk P w K mg base CX0 3 T.d_l_span.a T.d_l_span.fd ["_law_store_here", "_law_reach"] (spOf K S_l_span) :=
  fn_ok T.d_l_span.F sc_l_span sb_l_span (.inl rfl) (by rintro ps Post ⟨r, rfl, _⟩; exact ⟨rfl, rfl⟩) (fun X c e => by obtain ⟨rfl, rfl, rfl, rfl, rfl⟩ := e; exact bd_l_span (T.d_l_take.cal (ok_l_take T) (by decide)) (T.d_l_frac.cal (ok_l_frac T) (by decide)))
theorem ok_l_minus (T : Wd K mg) : FnOk P w K mg base CX0 2 T.d_l_minus.a T.d_l_minus.fd ["_law_a", "_law_b"] (spOf K S_l_minus) :=
  fn_ok T.d_l_minus.F sc_l_minus sb_l_minus (.inl rfl) (by rintro ps Post ⟨a, b, j, k, rfl, _⟩; exact ⟨rfl, rfl⟩) (fun X c e => by obtain ⟨rfl, rfl, rfl, rfl, rfl⟩ := e; exact bd_l_minus (T.d_l_frac.cal (ok_l_frac T) (by decide)))
theorem ok_l_plus (T : Wd K mg) : FnOk P w K mg base CX0 2 T.d_l_plus.a T.d_l_plus.fd ["_law_a", "_law_b"] (spOf K S_l_plus) :=
  fn_ok T.d_l_plus.F sc_l_plus sb_l_plus (.inl rfl) (by rintro ps Post ⟨a, b, j, k, rfl, _⟩; exact ⟨rfl, rfl⟩) (fun X c e => by obtain ⟨rfl, rfl, rfl, rfl, rfl⟩ := e; exact bd_l_plus (T.d_l_frac.cal (ok_l_frac T) (by decide)))
theorem ok_l_spare (T : Wd K mg) : FnOk P w K mg base CX0 3 T.d_l_spare.a T.d_l_spare.fd ["_law_store_here"] (spOf K S_l_spare) :=
  fn_ok T.d_l_spare.F sc_l_spare sb_l_spare (.inl rfl) (by rintro ps Post ⟨rfl, _⟩; exact ⟨rfl, rfl⟩) (fun X c e => by obtain ⟨rfl, rfl, rfl, rfl, rfl⟩ := e; exact bd_l_spare (T.d_l_take.cal (ok_l_take T) (by decide)) (T.d_l_frac.cal (ok_l_frac T) (by decide)))
theorem ok_l_round (T : Wd K mg) : FnOk P w K mg base CX0 5 T.d_l_round.a T.d_l_round.fd ["_law_store_here", "_law_x"] (spOf K S_l_round) :=
  fn_ok T.d_l_round.F sc_l_round sb_l_round (.inr rfl) (by rintro ps Post ⟨q, k, rfl, _⟩; exact ⟨rfl, rfl⟩) (fun X c e => by obtain ⟨rfl, rfl, rfl, rfl, rfl⟩ := e; exact bd_l_round (T.d_l_pick.cal (ok_l_pick T) (by decide)) (T.d_l_minus.cal (ok_l_minus T) (by decide)) (T.d_l_spare.cal (ok_l_spare T) (by decide)) (T.d_l_plus.cal (ok_l_plus T) (by decide)) (T.d_l_part.cal (ok_l_part T) (by decide)) ⟨T.b_tuple, by decide +kernel⟩)
theorem ok_l_drawn (T : Wd K mg) : FnOk P w K mg base CX0 6 T.d_l_drawn.a T.d_l_drawn.fd ["_law_store_here"] (spOf K S_l_drawn) :=
  fn_ok T.d_l_drawn.F sc_l_drawn sb_l_drawn (.inr rfl) (by rintro ps Post ⟨rfl, _⟩; exact ⟨rfl, rfl⟩) (fun X c e => by obtain ⟨rfl, rfl, rfl, rfl, rfl⟩ := e; exact bd_l_drawn (T.d_l_take.cal (ok_l_take T) (by decide)) ⟨T.b_tuple, by decide +kernel⟩ ⟨T.b_range, by decide +kernel⟩ (T.d_l_wide_span.cal (ok_l_wide_span T) (by decide)) (T.d_l_stamps.cal (ok_l_stamps T) (by decide)) (T.d_l_span.cal (ok_l_span T) (by decide)) (T.d_l_part.cal (ok_l_part T) (by decide)) (T.d_l_minus.cal (ok_l_minus T) (by decide)) (T.d_l_plus.cal (ok_l_plus T) (by decide)) (T.d_l_round.cal (ok_l_round T) (by decide)) (T.d_l_ratio.cal (ok_l_ratio T) (by decide)))
theorem ok_l_is_int (T : Wd K mg) : FnOk P w K mg base CX0 1 T.d_l_is_int.a T.d_l_is_int.fd ["_law_value"] (spOf K S_l_is_int) :=
  fn_ok T.d_l_is_int.F sc_l_is_int sb_l_is_int (.inl rfl) (by rintro ps Post ⟨x, rfl, _⟩; exact ⟨rfl, rfl⟩) (fun X c e => by obtain ⟨rfl, rfl, rfl, rfl, rfl⟩ := e; exact bd_l_is_int ⟨T.b_isinstance, by decide +kernel⟩ ⟨T.b_int, by decide +kernel⟩ ⟨T.b_bool, by decide +kernel⟩)
theorem ok_l_is_frac (T : Wd K mg) : FnOk P w K mg base CX0 2 T.d_l_is_frac.a T.d_l_is_frac.fd ["_law_value"] (spOf K S_l_is_frac) :=
  fn_ok T.d_l_is_frac.F sc_l_is_frac sb_l_is_frac (.inl rfl) (by rintro ps Post ⟨x, rfl, _⟩; exact ⟨rfl, rfl⟩) (fun X c e => by obtain ⟨rfl, rfl, rfl, rfl, rfl⟩ := e; exact bd_l_is_frac ⟨T.b_isinstance, by decide +kernel⟩ ⟨T.b_tuple, by decide +kernel⟩ ⟨T.b_len, by decide +kernel⟩ (T.d_l_is_int.cal (ok_l_is_int T) (by decide)) (T.d_l_frac.cal (ok_l_frac T) (by decide)))
theorem ok_l_is_span (T : Wd K mg) : FnOk P w K mg base CX0 3 T.d_l_is_span.a T.d_l_is_span.fd ["_law_value"] (spOf K S_l_is_span) :=
  fn_ok T.d_l_is_span.F sc_l_is_span sb_l_is_span (.inl rfl) (by rintro ps Post ⟨s, k, rfl, _⟩; exact ⟨rfl, rfl⟩) (fun X c e => by obtain ⟨rfl, rfl, rfl, rfl, rfl⟩ := e; exact bd_l_is_span ⟨T.b_isinstance, by decide +kernel⟩ ⟨T.b_tuple, by decide +kernel⟩ ⟨T.b_len, by decide +kernel⟩ (T.d_l_is_frac.cal (ok_l_is_frac T) (by decide)) (T.d_l_below.cal (ok_l_below T) (by decide)))
theorem ok_l_ordered (T : Wd K mg) : FnOk P w K mg base CX0 2 T.d_l_ordered.a T.d_l_ordered.fd ["_law_fracs"] (spOf K S_l_ordered) :=
  fn_ok T.d_l_ordered.F sc_l_ordered sb_l_ordered (.inl rfl) (by rintro ps Post ⟨qs, k, rfl, _⟩; exact ⟨rfl, rfl⟩) (fun X c e => by obtain ⟨rfl, rfl, rfl, rfl, rfl⟩ := e; exact bd_l_ordered ⟨T.b_range, by decide +kernel⟩ ⟨T.b_len, by decide +kernel⟩ (T.d_l_below.cal (ok_l_below T) (by decide)))
theorem ok_l_times (T : Wd K mg) : FnOk P w K mg base CX0 2 T.d_l_times.a T.d_l_times.fd ["_law_a", "_law_b"] (spOf K S_l_times) :=
  fn_ok T.d_l_times.F sc_l_times sb_l_times (.inl rfl) (by rintro ps Post ⟨a, b, j, k, rfl, _⟩; exact ⟨rfl, rfl⟩) (fun X c e => by obtain ⟨rfl, rfl, rfl, rfl, rfl⟩ := e; exact bd_l_times (T.d_l_frac.cal (ok_l_frac T) (by decide)))
theorem ok_l_probes (T : Wd K mg) : FnOk P w K mg base CX0 3 T.d_l_probes.a T.d_l_probes.fd ["_law_spans"] (spOf K S_l_probes) :=
  fn_ok T.d_l_probes.F sc_l_probes sb_l_probes (.inr rfl) (by rintro ps Post ⟨x, ss, k, rfl, _⟩; exact ⟨rfl, rfl⟩) (fun X c e => by obtain ⟨rfl, rfl, rfl, rfl, rfl⟩ := e; exact bd_l_probes (T.d_l_ordered.cal (ok_l_ordered T) (by decide)) ⟨T.b_len, by decide +kernel⟩ (T.d_l_minus.cal (ok_l_minus T) (by decide)) ⟨T.b_range, by decide +kernel⟩ (T.d_l_times.cal (ok_l_times T) (by decide)) (T.d_l_plus.cal (ok_l_plus T) (by decide)))
theorem ok_l_in_span (T : Wd K mg) : FnOk P w K mg base CX0 2 T.d_l_in_span.a T.d_l_in_span.fd ["_law_span_here", "_law_t"] (spOf K S_l_in_span) :=
  fn_ok T.d_l_in_span.F sc_l_in_span sb_l_in_span (.inl rfl) (by rintro ps Post ⟨s, t, j, k, rfl, _⟩; exact ⟨rfl, rfl⟩) (fun X c e => by obtain ⟨rfl, rfl, rfl, rfl, rfl⟩ := e; exact bd_l_in_span (T.d_l_below.cal (ok_l_below T) (by decide)))
theorem ok_l_offsets_ok (T : Wd K mg) : FnOk P w K mg base CX0 4 T.d_l_offsets_ok.a T.d_l_offsets_ok.fd ["_law_readings", "_law_forth", "_law_back", "_law_told"] (spOf K S_l_offsets_ok) :=
  fn_ok T.d_l_offsets_ok.F sc_l_offsets_ok sb_l_offsets_ok (.inr rfl) (by rintro ps Post ⟨x, f, b, j, k, rfl, _⟩; exact ⟨rfl, rfl⟩) (fun X c e => by obtain ⟨rfl, rfl, rfl, rfl, rfl⟩ := e; exact bd_l_offsets_ok (T.d_l_minus.cal (ok_l_minus T) (by decide)) (T.d_l_is_span.cal (ok_l_is_span T) (by decide)) (T.d_l_probes.cal (ok_l_probes T) (by decide)) (T.d_l_in_span.cal (ok_l_in_span T) (by decide)) (T.d_l_plus.cal (ok_l_plus T) (by decide)))
theorem ok_p_common_factor (T : Wd K mg) : FnOk P w K mg base CX0 1 T.d_p_common_factor.a T.d_p_common_factor.fd ["a", "b"] (spOf K S_p_common_factor) :=
  fn_ok T.d_p_common_factor.F sc_p_common_factor sb_p_common_factor (.inl rfl) (by rintro ps Post ⟨a, b, rfl, _⟩; exact ⟨rfl, rfl⟩) (fun X c e => by obtain ⟨rfl, rfl, rfl, rfl, rfl⟩ := e; exact bd_p_common_factor )
theorem ok_p_add (T : Wd K mg) : FnOk P w K mg base CX0 2 T.d_p_add.a T.d_p_add.fd ["a", "b"] (spOf K S_p_add) :=
  fn_ok T.d_p_add.F sc_p_add sb_p_add (.inl rfl) (by rintro ps Post ⟨a, b, j, k, rfl, _⟩; exact ⟨rfl, rfl⟩) (fun X c e => by obtain ⟨rfl, rfl, rfl, rfl, rfl⟩ := e; exact bd_p_add (T.d_p_common_factor.cal (ok_p_common_factor T) (by decide)))
theorem ok_p_shift (T : Wd K mg) : FnOk P w K mg base CX0 3 T.d_p_shift.a T.d_p_shift.fd ["span", "by"] (spOf K S_p_shift) :=
  fn_ok T.d_p_shift.F sc_p_shift sb_p_shift (.inl rfl) (by rintro ps Post ⟨s, d, j, k, rfl, _⟩; exact ⟨rfl, rfl⟩) (fun X c e => by obtain ⟨rfl, rfl, rfl, rfl, rfl⟩ := e; exact bd_p_shift (T.d_p_add.cal (ok_p_add T) (by decide)))
theorem ok_p_negate (T : Wd K mg) : FnOk P w K mg base CX0 1 T.d_p_negate.a T.d_p_negate.fd ["a"] (spOf K S_p_negate) :=
  fn_ok T.d_p_negate.F sc_p_negate sb_p_negate (.inl rfl) (by rintro ps Post ⟨a, rfl, _⟩; exact ⟨rfl, rfl⟩) (fun X c e => by obtain ⟨rfl, rfl, rfl, rfl, rfl⟩ := e; exact bd_p_negate )
theorem ok_p_mirrored (T : Wd K mg) : FnOk P w K mg base CX0 2 T.d_p_mirrored.a T.d_p_mirrored.fd ["span"] (spOf K S_p_mirrored) :=
  fn_ok T.d_p_mirrored.F sc_p_mirrored sb_p_mirrored (.inl rfl) (by rintro ps Post ⟨s, rfl, _⟩; exact ⟨rfl, rfl⟩) (fun X c e => by obtain ⟨rfl, rfl, rfl, rfl, rfl⟩ := e; exact bd_p_mirrored (T.d_p_negate.cal (ok_p_negate T) (by decide)))
theorem ok_p_subtract (T : Wd K mg) : FnOk P w K mg base CX0 3 T.d_p_subtract.a T.d_p_subtract.fd ["a", "b"] (spOf K S_p_subtract) :=
  fn_ok T.d_p_subtract.F sc_p_subtract sb_p_subtract (.inl rfl) (by rintro ps Post ⟨a, b, j, k, rfl, _⟩; exact ⟨rfl, rfl⟩) (fun X c e => by obtain ⟨rfl, rfl, rfl, rfl, rfl⟩ := e; exact bd_p_subtract (T.d_p_add.cal (ok_p_add T) (by decide)) (T.d_p_negate.cal (ok_p_negate T) (by decide)))
theorem ok_p_compare (T : Wd K mg) : FnOk P w K mg base CX0 1 T.d_p_compare.a T.d_p_compare.fd ["a", "b"] (spOf K S_p_compare) :=
  fn_ok T.d_p_compare.F sc_p_compare sb_p_compare (.inl rfl) (by rintro ps Post ⟨a, b, j, k, rfl, _⟩; exact ⟨rfl, rfl⟩) (fun X c e => by obtain ⟨rfl, rfl, rfl, rfl, rfl⟩ := e; exact bd_p_compare )
theorem ok_p_larger (T : Wd K mg) : FnOk P w K mg base CX0 2 T.d_p_larger.a T.d_p_larger.fd ["a", "b"] (spOf K S_p_larger) :=
  fn_ok T.d_p_larger.F sc_p_larger sb_p_larger (.inl rfl) (by rintro ps Post ⟨a, b, j, k, rfl, _⟩; exact ⟨rfl, rfl⟩) (fun X c e => by obtain ⟨rfl, rfl, rfl, rfl, rfl⟩ := e; exact bd_p_larger (T.d_p_compare.cal (ok_p_compare T) (by decide)))
theorem ok_p_smaller (T : Wd K mg) : FnOk P w K mg base CX0 2 T.d_p_smaller.a T.d_p_smaller.fd ["a", "b"] (spOf K S_p_smaller) :=
  fn_ok T.d_p_smaller.F sc_p_smaller sb_p_smaller (.inl rfl) (by rintro ps Post ⟨a, b, j, k, rfl, _⟩; exact ⟨rfl, rfl⟩) (fun X c e => by obtain ⟨rfl, rfl, rfl, rfl, rfl⟩ := e; exact bd_p_smaller (T.d_p_compare.cal (ok_p_compare T) (by decide)))
theorem ok_p_ends_cross (T : Wd K mg) : FnOk P w K mg base CX0 2 T.d_p_ends_cross.a T.d_p_ends_cross.fd ["low", "high"] (spOf K S_p_ends_cross) :=
  fn_ok T.d_p_ends_cross.F sc_p_ends_cross sb_p_ends_cross (.inl rfl) (by rintro ps Post ⟨a, b, k, rfl, _⟩; exact ⟨rfl, rfl⟩) (fun X c e => by obtain ⟨rfl, rfl, rfl, rfl, rfl⟩ := e; exact bd_p_ends_cross (T.d_p_compare.cal (ok_p_compare T) (by decide)))
theorem ok_p_meet (T : Wd K mg) : FnOk P w K mg base CX0 3 T.d_p_meet.a T.d_p_meet.fd ["a", "b"] (spOf K S_p_meet) :=
  fn_ok T.d_p_meet.F sc_p_meet sb_p_meet (.inl rfl) (by rintro ps Post ⟨a, b, k, rfl, _⟩; exact ⟨rfl, rfl⟩) (fun X c e => by obtain ⟨rfl, rfl, rfl, rfl, rfl⟩ := e; exact bd_p_meet (T.d_p_larger.cal (ok_p_larger T) (by decide)) (T.d_p_smaller.cal (ok_p_smaller T) (by decide)) (T.d_p_ends_cross.cal (ok_p_ends_cross T) (by decide)))
theorem ok_p_offset_span (T : Wd K mg) : FnOk P w K mg base CX0 4 T.d_p_offset_span.a T.d_p_offset_span.fd ["stamps", "forth", "back"] (spOf K S_p_offset_span) :=
  fn_ok T.d_p_offset_span.F sc_p_offset_span sb_p_offset_span (.inl rfl) (by rintro ps Post ⟨x, f, b, j, k, rfl, _⟩; exact ⟨rfl, rfl⟩) (fun X c e => by obtain ⟨rfl, rfl, rfl, rfl, rfl⟩ := e; exact bd_p_offset_span (T.d_p_shift.cal (ok_p_shift T) (by decide)) (T.d_p_mirrored.cal (ok_p_mirrored T) (by decide)) (T.d_p_subtract.cal (ok_p_subtract T) (by decide)) (T.d_p_meet.cal (ok_p_meet T) (by decide)))
theorem ok_p_multiply (T : Wd K mg) : FnOk P w K mg base CX0 2 T.d_p_multiply.a T.d_p_multiply.fd ["a", "b"] (spOf K S_p_multiply) :=
  fn_ok T.d_p_multiply.F sc_p_multiply sb_p_multiply (.inl rfl) (by rintro ps Post ⟨a, b, j, k, rfl, _⟩; exact ⟨rfl, rfl⟩) (fun X c e => by obtain ⟨rfl, rfl, rfl, rfl, rfl⟩ := e; exact bd_p_multiply (T.d_p_common_factor.cal (ok_p_common_factor T) (by decide)))
theorem ok_p_divide (T : Wd K mg) : FnOk P w K mg base CX0 3 T.d_p_divide.a T.d_p_divide.fd ["a", "b"] (spOf K S_p_divide) :=
  fn_ok T.d_p_divide.F sc_p_divide sb_p_divide (.inl rfl) (by rintro ps Post ⟨a, b, j, k, rfl, _⟩; exact ⟨rfl, rfl⟩) (fun X c e => by obtain ⟨rfl, rfl, rfl, rfl, rfl⟩ := e; exact bd_p_divide (T.d_p_multiply.cal (ok_p_multiply T) (by decide)))
theorem ok_p_plain_offset (T : Wd K mg) : FnOk P w K mg base CX0 4 T.d_p_plain_offset.a T.d_p_plain_offset.fd ["stamps"] (spOf K S_p_plain_offset) :=
  fn_ok T.d_p_plain_offset.F sc_p_plain_offset sb_p_plain_offset (.inl rfl) (by rintro ps Post ⟨x, j, rfl, _⟩; exact ⟨rfl, rfl⟩) (fun X c e => by obtain ⟨rfl, rfl, rfl, rfl, rfl⟩ := e; exact bd_p_plain_offset (T.d_p_divide.cal (ok_p_divide T) (by decide)) (T.d_p_add.cal (ok_p_add T) (by decide)) (T.d_p_subtract.cal (ok_p_subtract T) (by decide)) ⟨T.g_TWO⟩)
theorem ok_l_plain_ok (T : Wd K mg) : FnOk P w K mg base CX0 3 T.d_l_plain_ok.a T.d_l_plain_ok.fd ["_law_readings", "_law_told"] (spOf K S_l_plain_ok) :=
  fn_ok T.d_l_plain_ok.F sc_l_plain_ok sb_l_plain_ok (.inl rfl) (by rintro ps Post ⟨x, j, rfl, _⟩; exact ⟨rfl, rfl⟩) (fun X c e => by obtain ⟨rfl, rfl, rfl, rfl, rfl⟩ := e; exact bd_l_plain_ok (T.d_l_is_frac.cal (ok_l_is_frac T) (by decide)) (T.d_l_minus.cal (ok_l_minus T) (by decide)) (T.d_l_plus.cal (ok_l_plus T) (by decide)))
theorem ok_l_half_ok (T : Wd K mg) : FnOk P w K mg base CX0 3 T.d_l_half_ok.a T.d_l_half_ok.fd ["_law_span_here", "_law_told", "_law_plain"] (spOf K S_l_half_ok) :=
  fn_ok T.d_l_half_ok.F sc_l_half_ok sb_l_half_ok (.inl rfl) (by rintro ps Post ⟨x, s, j, k, rfl, _⟩; exact ⟨rfl, rfl⟩) (fun X c e => by obtain ⟨rfl, rfl, rfl, rfl, rfl⟩ := e; exact bd_l_half_ok (T.d_l_minus.cal (ok_l_minus T) (by decide)) (T.d_l_below.cal (ok_l_below T) (by decide)) (T.d_l_times.cal (ok_l_times T) (by decide)))
theorem okr_l_same (T : Wd K mg) : ∀ j, FnOk P w K mg base CX0 (1 + j + 1) T.d_l_same.a T.d_l_same.fd ["_law_value", "_law_due"] (spOf K (ST_same j))
  | 0 => by
    exact fn_ok (n := n_l_same (0)) T.d_l_same.F sc_l_same (sb_l_same.k _) (.inr rfl) (by rintro ps Post ⟨v, d, rfl, _⟩; exact ⟨rfl, rfl⟩) (fun X c e => by obtain ⟨rfl, rfl, rfl, rfl, rfl⟩ := e; exact bd_l_same (0) ⟨T.b_isinstance, by decide +kernel⟩ ⟨T.b_bool, by decide +kernel⟩ ⟨T.b_int, by decide +kernel⟩ (T.d_l_is_int.cal (ok_l_is_int T) (Nat.le_trans (by decide) (Nat.le_add_right 1 _))) ⟨T.b_str, by decide +kernel⟩ ⟨T.b_dict, by decide +kernel⟩ ⟨T.b_list, by decide +kernel⟩ ⟨T.b_tuple, by decide +kernel⟩ ⟨T.b_len, by decide +kernel⟩ ⟨T.b_range, by decide +kernel⟩ (fun i e => by cases e))
  | j + 1 => by
    have rc := okr_l_same T j
    exact fn_ok (n := n_l_same (j + 1)) T.d_l_same.F sc_l_same (sb_l_same.k _) (.inr rfl) (by rintro ps Post ⟨v, d, rfl, _⟩; exact ⟨rfl, rfl⟩) (fun X c e => by obtain ⟨rfl, rfl, rfl, rfl, rfl⟩ := e; exact bd_l_same (j + 1) ⟨T.b_isinstance, by decide +kernel⟩ ⟨T.b_bool, by decide +kernel⟩ ⟨T.b_int, by decide +kernel⟩ (T.d_l_is_int.cal (ok_l_is_int T) (Nat.le_trans (by decide) (Nat.le_add_right 1 _))) ⟨T.b_str, by decide +kernel⟩ ⟨T.b_dict, by decide +kernel⟩ ⟨T.b_list, by decide +kernel⟩ ⟨T.b_tuple, by decide +kernel⟩ ⟨T.b_len, by decide +kernel⟩ ⟨T.b_range, by decide +kernel⟩ (fun i e => by cases e; exact T.d_l_same.cal rc (Nat.le_refl _)))
theorem ok_l_same (T : Wd K mg) : FnOk P w K mg base CX0 7 T.d_l_same.a T.d_l_same.fd ["_law_value", "_law_due"] (spOf K S_l_same) := okr_l_same T 5
theorem ok_p_round_trip (T : Wd K mg) : FnOk P w K mg base CX0 4 T.d_p_round_trip.a T.d_p_round_trip.fd ["stamps"] (spOf K S_p_round_trip) :=
  fn_ok T.d_p_round_trip.F sc_p_round_trip sb_p_round_trip (.inl rfl) (by rintro ps Post ⟨x, j, rfl, _⟩; exact ⟨rfl, rfl⟩) (fun X c e => by obtain ⟨rfl, rfl, rfl, rfl, rfl⟩ := e; exact bd_p_round_trip (T.d_p_subtract.cal (ok_p_subtract T) (by decide)))
theorem ok_law (T : Wd K mg) : FnOk P w K mg base CX0 8 T.d_law.a T.d_law.fd ["_law_script"] (spOf K S_law) :=
  fn_ok T.d_law.F sc_law sb_law (.inl rfl) (by rintro ps Post ⟨ns, rfl, _⟩; exact ⟨rfl, rfl⟩) (fun X c e => by obtain ⟨rfl, rfl, rfl, rfl, rfl⟩ := e; exact bd_law (T.d_l_store.cal (ok_l_store T) (by decide)) (T.d_l_drawn.cal (ok_l_drawn T) (by decide)) (T.d_l_offsets_ok.cal (ok_l_offsets_ok T) (by decide)) (T.d_p_offset_span.cal (ok_p_offset_span T) (by decide)) (T.d_p_plain_offset.cal (ok_p_plain_offset T) (by decide)) (T.d_l_plain_ok.cal (ok_l_plain_ok T) (by decide)) (T.d_l_half_ok.cal (ok_l_half_ok T) (by decide)) (T.d_l_minus.cal (ok_l_minus T) (by decide)) (T.d_l_plus.cal (ok_l_plus T) (by decide)) (T.d_l_same.cal (ok_l_same T) (by decide)) (T.d_p_round_trip.cal (ok_p_round_trip T) (by decide)))
theorem head {fa : Addr} (hm : mg "law" = some (.ref fa)) (T : Wd K mg) : ∃ fd : FuncData, (∀ (s : Shared) (v : Value), BindsTo s fd ⟨[v], []⟩ [("_law_script", v)]) ∧ ∀ base : Heap, K.In base → base.Ns mainGlobals mg → FnOk P w K mg base CX0 8 fa fd ["_law_script"] (spOf K S_law) := law_end T.d_law hm fun base => ok_law T
end
end Lw
end

open PySem PySem.W PyProof.Rows in
set_option maxRecDepth 100000 in
set_option maxHeartbeats 0 in
theorem PySem.Challenge.cw_clockverdict_k15_offset_span_holds : PySem.Challenge.rw_clockverdict_k15_offset_span.Holds := by
  w_on; o_law; k_head; (case hw => w_witness2)
  k_fill
  refine L2.walk_ofK (l := PySem.Challenge.rw_clockverdict_k15_offset_span) (n := 63) (k := 8) (x := "_law_script") (CX := L2.CX0) (sp := fun K => DL.spOf K Lw.S_law) rfl (by decide) rfl ⟨rfl, by decide, by decide⟩ (fun w h Y => PySem.W.kIn_of Y) ?F (DL.sp_law fun ns h => ⟨ns, rfl, h, rfl⟩) fun _ _ _ _ z => z
  case F =>
    intro w mg fa h KX G hmg
    refine' Lw.head hmg ?T
    refine' Lw.Wd.mk (d_l_store := DL.defAt KX G ?b0 ?a0 ?l0 ?c0 ?k0) (d_l_feed := DL.defAt KX G ?b1 ?a1 ?l1 ?c1 ?k1) (d_l_mixed := DL.defAt KX G ?b2 ?a2 ?l2 ?c2 ?k2) (d_l_take := DL.defAt KX G ?b3 ?a3 ?l3 ?c3 ?k3) (d_l_pick := DL.defAt KX G ?b4 ?a4 ?l4 ?c4 ?k4) (d_l_frac := DL.defAt KX G ?b5 ?a5 ?l5 ?c5 ?k5) (d_l_ratio := DL.defAt KX G ?b6 ?a6 ?l6 ?c6 ?k6) (d_l_below := DL.defAt KX G ?b7 ?a7 ?l7 ?c7 ?k7) (d_l_wide_span := DL.defAt KX G ?b8 ?a8 ?l8 ?c8 ?k8) (d_l_part := DL.defAt KX G ?b9 ?a9 ?l9 ?c9 ?k9) (d_l_stamps := DL.defAt KX G ?b10 ?a10 ?l10 ?c10 ?k10) (d_l_span := DL.defAt KX G ?b11 ?a11 ?l11 ?c11 ?k11) (d_l_minus := DL.defAt KX G ?b12 ?a12 ?l12 ?c12 ?k12) (d_l_plus := DL.defAt KX G ?b13 ?a13 ?l13 ?c13 ?k13) (d_l_spare := DL.defAt KX G ?b14 ?a14 ?l14 ?c14 ?k14) (d_l_round := DL.defAt KX G ?b15 ?a15 ?l15 ?c15 ?k15) (d_l_drawn := DL.defAt KX G ?b16 ?a16 ?l16 ?c16 ?k16) (d_l_is_int := DL.defAt KX G ?b17 ?a17 ?l17 ?c17 ?k17) (d_l_is_frac := DL.defAt KX G ?b18 ?a18 ?l18 ?c18 ?k18) (d_l_is_span := DL.defAt KX G ?b19 ?a19 ?l19 ?c19 ?k19) (d_l_ordered := DL.defAt KX G ?b20 ?a20 ?l20 ?c20 ?k20) (d_l_times := DL.defAt KX G ?b21 ?a21 ?l21 ?c21 ?k21) (d_l_probes := DL.defAt KX G ?b22 ?a22 ?l22 ?c22 ?k22) (d_l_in_span := DL.defAt KX G ?b23 ?a23 ?l23 ?c23 ?k23) (d_l_offsets_ok := DL.defAt KX G ?b24 ?a24 ?l24 ?c24 ?k24) (d_p_common_factor := DL.defAt KX G ?b25 ?a25 ?l25 ?c25 ?k25) (d_p_add := DL.defAt KX G ?b26 ?a26 ?l26 ?c26 ?k26) (d_p_shift := DL.defAt KX G ?b27 ?a27 ?l27 ?c27 ?k27) (d_p_negate := DL.defAt KX G ?b28 ?a28 ?l28 ?c28 ?k28) (d_p_mirrored := DL.defAt KX G ?b29 ?a29 ?l29 ?c29 ?k29) (d_p_subtract := DL.defAt KX G ?b30 ?a30 ?l30 ?c30 ?k30) (d_p_compare := DL.defAt KX G ?b31 ?a31 ?l31 ?c31 ?k31) (d_p_larger := DL.defAt KX G ?b32 ?a32 ?l32 ?c32 ?k32) (d_p_smaller := DL.defAt KX G ?b33 ?a33 ?l33 ?c33 ?k33) (d_p_ends_cross := DL.defAt KX G ?b34 ?a34 ?l34 ?c34 ?k34) (d_p_meet := DL.defAt KX G ?b35 ?a35 ?l35 ?c35 ?k35) (d_p_offset_span := DL.defAt KX G ?b36 ?a36 ?l36 ?c36 ?k36) (d_p_multiply := DL.defAt KX G ?b37 ?a37 ?l37 ?c37 ?k37) (d_p_divide := DL.defAt KX G ?b38 ?a38 ?l38 ?c38 ?k38) (d_p_plain_offset := DL.defAt KX G ?b39 ?a39 ?l39 ?c39 ?k39) (d_l_plain_ok := DL.defAt KX G ?b40 ?a40 ?l40 ?c40 ?k40) (d_l_half_ok := DL.defAt KX G ?b41 ?a41 ?l41 ?c41 ?k41) (d_l_same := DL.defAt KX G ?b42 ?a42 ?l42 ?c42 ?k42) (d_p_round_trip := DL.defAt KX G ?b43 ?a43 ?l43 ?c43 ?k43) (d_law := DL.defAt KX G ?b44 ?a44 ?l44 ?c44 ?k44) (b_list := PySem.W.mg_none_of KX G ?z0) (b_int := PySem.W.mg_none_of KX G ?z1) (b_abs := PySem.W.mg_none_of KX G ?z2) (b_max := PySem.W.mg_none_of KX G ?z3) (b_len := PySem.W.mg_none_of KX G ?z4) (b_tuple := PySem.W.mg_none_of KX G ?z5) (b_range := PySem.W.mg_none_of KX G ?z6) (b_isinstance := PySem.W.mg_none_of KX G ?z7) (b_bool := PySem.W.mg_none_of KX G ?z8) (b_str := PySem.W.mg_none_of KX G ?z9) (b_dict := PySem.W.mg_none_of KX G ?z10) (g_TWO := DL.con_q KX G ?y0 ?x0)
    (case b0 => exact fun _ _ _ _ _ _ us hl => match us, hl with | [_], _ => rfl)
    (case a0 => k_is)
    (case l0 => k_is)
    (case c0 => k_is)
    (case k0 => k_is)
    (case b1 => exact fun _ _ _ _ _ _ us hl => match us, hl with | [_], _ => rfl)
    (case a1 => k_is)
    (case l1 => k_is)
    (case c1 => k_is)
    (case k1 => k_is)
    (case b2 => exact fun _ _ _ _ _ _ us hl => match us, hl with | [_], _ => rfl)
    (case a2 => k_is)
    (case l2 => k_is)
    (case c2 => k_is)
    (case k2 => k_is)
    (case b3 => exact fun _ _ _ _ _ _ us hl => match us, hl with | [_, _], _ => rfl)
    (case a3 => k_is)
    (case l3 => k_is)
    (case c3 => k_is)
    (case k3 => k_is)
    (case b4 => exact fun _ _ _ _ _ _ us hl => match us, hl with | [_, _], _ => rfl)
    (case a4 => k_is)
    (case l4 => k_is)
    (case c4 => k_is)
    (case k4 => k_is)
    (case b5 => exact fun _ _ _ _ _ _ us hl => match us, hl with | [_, _], _ => rfl)
    (case a5 => k_is)
    (case l5 => k_is)
    (case c5 => k_is)
    (case k5 => k_is)
    (case b6 => exact fun _ _ _ _ _ _ us hl => match us, hl with | [_, _], _ => rfl)
    (case a6 => k_is)
    (case l6 => k_is)
    (case c6 => k_is)
    (case k6 => k_is)
    (case b7 => exact fun _ _ _ _ _ _ us hl => match us, hl with | [_, _], _ => rfl)
    (case a7 => k_is)
    (case l7 => k_is)
    (case c7 => k_is)
    (case k7 => k_is)
    (case b8 => exact fun _ _ _ _ _ _ us hl => match us, hl with | [_], _ => rfl)
    (case a8 => k_is)
    (case l8 => k_is)
    (case c8 => k_is)
    (case k8 => k_is)
    (case b9 => exact fun _ _ _ _ _ _ us hl => match us, hl with | [_], _ => rfl)
    (case a9 => k_is)
    (case l9 => k_is)
    (case c9 => k_is)
    (case k9 => k_is)
    (case b10 => exact fun _ _ _ _ _ _ us hl => match us, hl with | [_], _ => rfl)
    (case a10 => k_is)
    (case l10 => k_is)
    (case c10 => k_is)
    (case k10 => k_is)
    (case b11 => exact fun _ _ _ _ _ _ us hl => match us, hl with | [_, _], _ => rfl)
    (case a11 => k_is)
    (case l11 => k_is)
    (case c11 => k_is)
    (case k11 => k_is)
    (case b12 => exact fun _ _ _ _ _ _ us hl => match us, hl with | [_, _], _ => rfl)
    (case a12 => k_is)
    (case l12 => k_is)
    (case c12 => k_is)
    (case k12 => k_is)
    (case b13 => exact fun _ _ _ _ _ _ us hl => match us, hl with | [_, _], _ => rfl)
    (case a13 => k_is)
    (case l13 => k_is)
    (case c13 => k_is)
    (case k13 => k_is)
    (case b14 => exact fun _ _ _ _ _ _ us hl => match us, hl with | [_], _ => rfl)
    (case a14 => k_is)
    (case l14 => k_is)
    (case c14 => k_is)
    (case k14 => k_is)
    (case b15 => exact fun _ _ _ _ _ _ us hl => match us, hl with | [_, _], _ => rfl)
    (case a15 => k_is)
    (case l15 => k_is)
    (case c15 => k_is)
    (case k15 => k_is)
    (case b16 => exact fun _ _ _ _ _ _ us hl => match us, hl with | [_], _ => rfl)
    (case a16 => k_is)
    (case l16 => k_is)
    (case c16 => k_is)
    (case k16 => k_is)
    (case b17 => exact fun _ _ _ _ _ _ us hl => match us, hl with | [_], _ => rfl)
    (case a17 => k_is)
    (case l17 => k_is)
    (case c17 => k_is)
    (case k17 => k_is)
    (case b18 => exact fun _ _ _ _ _ _ us hl => match us, hl with | [_], _ => rfl)
    (case a18 => k_is)
    (case l18 => k_is)
    (case c18 => k_is)
    (case k18 => k_is)
    (case b19 => exact fun _ _ _ _ _ _ us hl => match us, hl with | [_], _ => rfl)
    (case a19 => k_is)
    (case l19 => k_is)
    (case c19 => k_is)
    (case k19 => k_is)
    (case b20 => exact fun _ _ _ _ _ _ us hl => match us, hl with | [_], _ => rfl)
    (case a20 => k_is)
    (case l20 => k_is)
    (case c20 => k_is)
    (case k20 => k_is)
    (case b21 => exact fun _ _ _ _ _ _ us hl => match us, hl with | [_, _], _ => rfl)
    (case a21 => k_is)
    (case l21 => k_is)
    (case c21 => k_is)
    (case k21 => k_is)
    (case b22 => exact fun _ _ _ _ _ _ us hl => match us, hl with | [_], _ => rfl)
    (case a22 => k_is)
    (case l22 => k_is)
    (case c22 => k_is)
    (case k22 => k_is)
    (case b23 => exact fun _ _ _ _ _ _ us hl => match us, hl with | [_, _], _ => rfl)
    (case a23 => k_is)
    (case l23 => k_is)
    (case c23 => k_is)
    (case k23 => k_is)
    (case b24 => exact fun _ _ _ _ _ _ us hl => match us, hl with | [_, _, _, _], _ => rfl)
    (case a24 => k_is)
    (case l24 => k_is)
    (case c24 => k_is)
    (case k24 => k_is)
    (case b25 => exact fun _ _ _ _ _ _ us hl => match us, hl with | [_, _], _ => rfl)
    (case a25 => k_is)
    (case l25 => k_is)
    (case c25 => k_is)
    (case k25 => k_is)
    (case b26 => exact fun _ _ _ _ _ _ us hl => match us, hl with | [_, _], _ => rfl)
    (case a26 => k_is)
    (case l26 => k_is)
    (case c26 => k_is)
    (case k26 => k_is)
    (case b27 => exact fun _ _ _ _ _ _ us hl => match us, hl with | [_, _], _ => rfl)
    (case a27 => k_is)
    (case l27 => k_is)
    (case c27 => k_is)
    (case k27 => k_is)
    (case b28 => exact fun _ _ _ _ _ _ us hl => match us, hl with | [_], _ => rfl)
    (case a28 => k_is)
    (case l28 => k_is)
    (case c28 => k_is)
    (case k28 => k_is)
    (case b29 => exact fun _ _ _ _ _ _ us hl => match us, hl with | [_], _ => rfl)
    (case a29 => k_is)
    (case l29 => k_is)
    (case c29 => k_is)
    (case k29 => k_is)
    (case b30 => exact fun _ _ _ _ _ _ us hl => match us, hl with | [_, _], _ => rfl)
    (case a30 => k_is)
    (case l30 => k_is)
    (case c30 => k_is)
    (case k30 => k_is)
    (case b31 => exact fun _ _ _ _ _ _ us hl => match us, hl with | [_, _], _ => rfl)
    (case a31 => k_is)
    (case l31 => k_is)
    (case c31 => k_is)
    (case k31 => k_is)
    (case b32 => exact fun _ _ _ _ _ _ us hl => match us, hl with | [_, _], _ => rfl)
    (case a32 => k_is)
    (case l32 => k_is)
    (case c32 => k_is)
    (case k32 => k_is)
    (case b33 => exact fun _ _ _ _ _ _ us hl => match us, hl with | [_, _], _ => rfl)
    (case a33 => k_is)
    (case l33 => k_is)
    (case c33 => k_is)
    (case k33 => k_is)
    (case b34 => exact fun _ _ _ _ _ _ us hl => match us, hl with | [_, _], _ => rfl)
    (case a34 => k_is)
    (case l34 => k_is)
    (case c34 => k_is)
    (case k34 => k_is)
    (case b35 => exact fun _ _ _ _ _ _ us hl => match us, hl with | [_, _], _ => rfl)
    (case a35 => k_is)
    (case l35 => k_is)
    (case c35 => k_is)
    (case k35 => k_is)
    (case b36 => exact fun _ _ _ _ _ _ us hl => match us, hl with | [_, _, _], _ => rfl)
    (case a36 => k_is)
    (case l36 => k_is)
    (case c36 => k_is)
    (case k36 => k_is)
    (case b37 => exact fun _ _ _ _ _ _ us hl => match us, hl with | [_, _], _ => rfl)
    (case a37 => k_is)
    (case l37 => k_is)
    (case c37 => k_is)
    (case k37 => k_is)
    (case b38 => exact fun _ _ _ _ _ _ us hl => match us, hl with | [_, _], _ => rfl)
    (case a38 => k_is)
    (case l38 => k_is)
    (case c38 => k_is)
    (case k38 => k_is)
    (case b39 => exact fun _ _ _ _ _ _ us hl => match us, hl with | [_], _ => rfl)
    (case a39 => k_is)
    (case l39 => k_is)
    (case c39 => k_is)
    (case k39 => k_is)
    (case b40 => exact fun _ _ _ _ _ _ us hl => match us, hl with | [_, _], _ => rfl)
    (case a40 => k_is)
    (case l40 => k_is)
    (case c40 => k_is)
    (case k40 => k_is)
    (case b41 => exact fun _ _ _ _ _ _ us hl => match us, hl with | [_, _, _], _ => rfl)
    (case a41 => k_is)
    (case l41 => k_is)
    (case c41 => k_is)
    (case k41 => k_is)
    (case b42 => exact fun _ _ _ _ _ _ us hl => match us, hl with | [_, _], _ => rfl)
    (case a42 => k_is)
    (case l42 => k_is)
    (case c42 => k_is)
    (case k42 => k_is)
    (case b43 => exact fun _ _ _ _ _ _ us hl => match us, hl with | [_], _ => rfl)
    (case a43 => k_is)
    (case l43 => k_is)
    (case c43 => k_is)
    (case k43 => k_is)
    (case b44 => exact fun _ _ _ _ _ _ us hl => match us, hl with | [_], _ => rfl)
    (case a44 => k_is)
    (case l44 => k_is)
    (case c44 => k_is)
    (case k44 => k_is)
    (case z0 => k_is)
    (case z1 => k_is)
    (case z2 => k_is)
    (case z3 => k_is)
    (case z4 => k_is)
    (case z5 => k_is)
    (case z6 => k_is)
    (case z7 => k_is)
    (case z8 => k_is)
    (case z9 => k_is)
    (case z10 => k_is)
    (case y0 => k_is)
    (case x0 => k_is)

